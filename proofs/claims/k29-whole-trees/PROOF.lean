import PyProof.Rows.All
import Wide.All
import OpenK.AllK
import Wide.FinOn
import HandS.ForMost
import HandS.TupSets
import HandS.Strs
import HandS.SetFor
import HandS.IsInst
import HandS.Style
import HandS.TupAny
import HandS.TupMul
import HandS.Conv
import HandS.Wide
import HandS.EndBits
import KE.SortData
import KE.DatumOrd
import KE.DatumIndex
import KE.KDictDisplayH
import KE.KDictCopyH
import KE.KDictWalk
import KE.GoesEnum
import HandS.Star
import KE.GoesMore
import PySem.Challenge.RW_introducers_k29_whole_trees
set_option Elab.async false
set_option linter.all false
set_option maxRecDepth 100000
set_option maxHeartbeats 4000000
/-! The mathematics of trees in webs of friends: plain lists of couples. -/
namespace Tr
abbrev Web := List (List Nat)
abbrev Edge := Nat × Nat

def adj (ps : List Edge) (u v : Nat) : Bool := decide ((u, v) ∈ ps) || decide ((v, u) ∈ ps)
theorem adj_iff {ps : List Edge} {u v : Nat} : adj ps u v = true ↔ (u, v) ∈ ps ∨ (v, u) ∈ ps := by
  unfold adj; rw [Bool.or_eq_true, decide_eq_true_eq, decide_eq_true_eq]
theorem adj_symm {ps : List Edge} {u v : Nat} : adj ps u v = adj ps v u := by unfold adj; exact Bool.or_comm _ _

/-- the representative of a person's class behind the couples -/
def lab : List Edge → Nat → Nat
  | [], v => v
  | (a, b) :: ps, v => if lab ps v = lab ps a then lab ps b else lab ps v
def OkE (n : Nat) (ps : List Edge) : Prop := ∀ p ∈ ps, p.1 < p.2 ∧ p.2 < n
theorem OkE.tail {n : Nat} {e : Edge} {ps : List Edge} (h : OkE n (e :: ps)) : OkE n ps := fun p hp => h p (List.mem_cons_of_mem _ hp)
theorem OkE.sub {n : Nat} {ps qs : List Edge} (h : OkE n qs) (s : ∀ p ∈ ps, p ∈ qs) : OkE n ps := fun p hp => h p (s p hp)

theorem lab_pos {a b v : Nat} {ps : List Edge} (h : lab ps v = lab ps a) : lab ((a, b) :: ps) v = lab ps b := if_pos h
theorem lab_neg {a b v : Nat} {ps : List Edge} (h : ¬ lab ps v = lab ps a) : lab ((a, b) :: ps) v = lab ps v := if_neg h
theorem lab_idem : ∀ (ps : List Edge) (v : Nat), lab ps (lab ps v) = lab ps v
  | [], _ => rfl
  | (a, b) :: ps, v => by
    have ih := lab_idem ps
    by_cases h : lab ps v = lab ps a
    · rw [lab_pos h]
      by_cases h2 : lab ps (lab ps b) = lab ps a
      · rw [lab_pos h2]
      · rw [lab_neg h2, ih]
    · rw [lab_neg h, lab_neg (by rw [ih]; exact h), ih]
theorem lab_lt {n : Nat} : ∀ {ps : List Edge} {v : Nat}, OkE n ps → v < n → lab ps v < n
  | [], _, _, h => h
  | (a, b) :: ps, v, ok, h => by
    have hb := ok (a, b) List.mem_cons_self
    by_cases h2 : lab ps v = lab ps a
    · rw [lab_pos h2]; exact lab_lt ok.tail hb.2
    · rw [lab_neg h2]; exact lab_lt ok.tail h
/-- two are of one class -/
def cn (ps : List Edge) (u v : Nat) : Prop := lab ps u = lab ps v
instance (ps : List Edge) (u v : Nat) : Decidable (cn ps u v) := inferInstanceAs (Decidable (lab ps u = lab ps v))
theorem cn_refl (ps : List Edge) (u : Nat) : cn ps u u := rfl
theorem cn.symm {ps : List Edge} {u v : Nat} (h : cn ps u v) : cn ps v u := Eq.symm h
theorem cn.trans {ps : List Edge} {u v x : Nat} (h : cn ps u v) (k : cn ps v x) : cn ps u x := Eq.trans h k

theorem cn_cons {a b u v : Nat} {ps : List Edge} : cn ((a, b) :: ps) u v ↔ cn ps u v ∨ (cn ps u a ∨ cn ps u b) ∧ (cn ps v a ∨ cn ps v b) := by
  unfold cn
  by_cases h1 : lab ps u = lab ps a <;> by_cases h2 : lab ps v = lab ps a
  · rw [lab_pos h1, lab_pos h2]; simp [h1, h2]
  · rw [lab_pos h1, lab_neg h2]
    constructor
    · intro h; exact .inr ⟨.inl h1, .inr h.symm⟩
    · rintro (h | ⟨_, h | h⟩)
      · exact absurd (h.symm.trans h1) h2
      · exact absurd h h2
      · exact h.symm
  · rw [lab_neg h1, lab_pos h2]
    constructor
    · intro h; exact .inr ⟨.inr h, .inl h2⟩
    · rintro (h | ⟨h | h, _⟩)
      · exact absurd (h.trans h2) h1
      · exact absurd h h1
      · exact h
  · rw [lab_neg h1, lab_neg h2]
    constructor
    · exact .inl
    · rintro (h | ⟨h | h, k | k⟩)
      · exact h
      · exact absurd h h1
      · exact absurd h h1
      · exact absurd k h2
      · exact h.trans k.symm
theorem cn_edge : ∀ {ps : List Edge} {a b : Nat}, (a, b) ∈ ps → cn ps a b
  | (c, d) :: ps, a, b, h => by
    rcases List.mem_cons.mp h with e | h
    · cases e
      exact cn_cons.mpr (.inr ⟨.inl rfl, .inr rfl⟩)
    · exact cn_cons.mpr (.inl (cn_edge h))
/-- whatever holds together all couples, holds together the classes -/
theorem cn_least {ps : List Edge} {S : Nat → Nat → Prop} (refl : ∀ u, S u u) (symm : ∀ u v, S u v → S v u) (trans : ∀ u v x, S u v → S v x → S u x) (he : ∀ a b, (a, b) ∈ ps → S a b) : ∀ u v, cn ps u v → S u v := by
  induction ps with
  | nil => intro u v h; have h : u = v := h; subst h; exact refl u
  | cons e ps ih =>
    obtain ⟨a, b⟩ := e
    have ih := ih fun c d h => he c d (List.mem_cons_of_mem _ h)
    have hab : S a b := he a b List.mem_cons_self
    intro u v h
    rcases cn_cons.mp h with h | ⟨h | h, k | k⟩
    · exact ih u v h
    · exact trans _ _ _ (ih _ _ h) (symm _ _ (ih _ _ k))
    · exact trans _ _ _ (ih _ _ h) (trans _ _ _ hab (symm _ _ (ih _ _ k)))
    · exact trans _ _ _ (ih _ _ h) (trans _ _ _ (symm _ _ hab) (symm _ _ (ih _ _ k)))
    · exact trans _ _ _ (ih _ _ h) (symm _ _ (ih _ _ k))
theorem cn_mono {ps qs : List Edge} (h : ∀ e ∈ ps, e ∈ qs) {u v : Nat} (k : cn ps u v) : cn qs u v :=
  cn_least (S := cn qs) (fun _ => rfl) (fun _ _ => cn.symm) (fun _ _ _ => cn.trans) (fun a b e => cn_edge (h _ e)) u v k
theorem cn_mono' {ps qs : List Edge} (h : ∀ a b, (a, b) ∈ ps → cn qs a b) {u v : Nat} (k : cn ps u v) : cn qs u v :=
  cn_least (S := cn qs) (fun _ => rfl) (fun _ _ => cn.symm) (fun _ _ _ => cn.trans) h u v k

/-! ### how many classes -/
def fixs (n : Nat) (ps : List Edge) : List Nat := (List.range n).filter fun v => decide (lab ps v = v)
def cnt (n : Nat) (ps : List Edge) : Nat := (fixs n ps).length
theorem mem_fixs {n : Nat} {ps : List Edge} {v : Nat} : v ∈ fixs n ps ↔ v < n ∧ lab ps v = v := by
  unfold fixs; rw [List.mem_filter, List.mem_range, decide_eq_true_eq]
theorem fixs_nodup (n : Nat) (ps : List Edge) : (fixs n ps).Nodup := List.Pairwise.filter _ List.nodup_range
theorem cnt_nil (n : Nat) : cnt n [] = n := by
  unfold cnt fixs
  rw [List.filter_eq_self.mpr (fun v _ => by simp [lab]), List.length_range]
theorem cnt_same {n a b : Nat} {ps : List Edge} (h : cn ps a b) : cnt n ((a, b) :: ps) = cnt n ps := by
  have e : ∀ v, lab ((a, b) :: ps) v = lab ps v := fun v => by
    have h : lab ps a = lab ps b := h
    by_cases k : lab ps v = lab ps a
    · rw [lab_pos k, k, h]
    · rw [lab_neg k]
  unfold cnt fixs
  simp only [e]
theorem cnt_less {n a b : Nat} {ps : List Edge} (ok : OkE n ((a, b) :: ps)) (h : ¬ cn ps a b) : cnt n ((a, b) :: ps) + 1 = cnt n ps := by
  have h : ¬ lab ps a = lab ps b := h
  have hab := ok (a, b) List.mem_cons_self
  have hm : lab ps a ∈ fixs n ps := mem_fixs.mpr ⟨lab_lt ok.tail (Nat.lt_trans hab.1 hab.2), lab_idem _ _⟩
  have e : fixs n ((a, b) :: ps) = (fixs n ps).erase (lab ps a) := by
    rw [List.Nodup.erase_eq_filter (fixs_nodup n ps)]
    unfold fixs
    rw [List.filter_filter]
    refine List.filter_congr fun v _ => ?_
    rw [Bool.eq_iff_iff]
    simp only [decide_eq_true_eq, Bool.and_eq_true, bne_iff_ne]
    by_cases k : lab ps v = lab ps a
    · rw [lab_pos k]
      constructor
      · intro z
        exfalso
        rw [← z, lab_idem] at k
        exact h k.symm
      · rintro ⟨z1, z2⟩
        exact absurd (z2.symm.trans k) z1
    · rw [lab_neg k]
      constructor
      · intro z
        exact ⟨fun q => k (by rw [q, lab_idem]), z⟩
      · rintro ⟨_, z⟩
        exact z
  unfold cnt
  rw [e, List.length_erase_of_mem hm]
  have := List.length_pos_of_mem hm
  omega
theorem cnt_ge {n : Nat} : ∀ {ps : List Edge}, OkE n ps → n ≤ cnt n ps + ps.length
  | [], _ => by rw [cnt_nil]; exact Nat.le_refl _
  | (a, b) :: ps, ok => by
    have ih := cnt_ge ok.tail
    rw [List.length_cons]
    by_cases h : cn ps a b
    · rw [cnt_same h]; omega
    · have := cnt_less ok h; omega
theorem cnt_le_of {n : Nat} {ps qs : List Edge} (okq : OkE n qs) (h : ∀ u v, cn qs u v → cn ps u v) : cnt n ps ≤ cnt n qs := by
  have nd : ((fixs n ps).map (lab qs)).Nodup := by
    rw [List.nodup_iff_pairwise_ne, List.pairwise_map]
    refine List.Pairwise.imp_of_mem ?_ (fixs_nodup n ps)
    intro u v hu hv hne e
    have := h u v e
    unfold cn at this
    rw [(mem_fixs.mp hu).2, (mem_fixs.mp hv).2] at this
    exact hne this
  have sub : (fixs n ps).map (lab qs) ⊆ fixs n qs := fun x hx => by
    obtain ⟨v, hv, rfl⟩ := List.mem_map.mp hx
    exact mem_fixs.mpr ⟨lab_lt okq (mem_fixs.mp hv).1, lab_idem _ _⟩
  have := nd.length_le_of_subset sub
  rw [List.length_map] at this
  exact this
theorem cnt_congr {n : Nat} {ps qs : List Edge} (okp : OkE n ps) (okq : OkE n qs) (h : ∀ e, e ∈ ps ↔ e ∈ qs) : cnt n ps = cnt n qs :=
  Nat.le_antisymm (cnt_le_of okq fun u v => cn_mono fun e he => (h e).mpr he) (cnt_le_of okp fun u v => cn_mono fun e he => (h e).mp he)
def Conn (n : Nat) (ps : List Edge) : Prop := ∀ u v, u < n → v < n → cn ps u v
theorem conn_iff {n : Nat} {ps : List Edge} (hn : 0 < n) (ok : OkE n ps) : Conn n ps ↔ cnt n ps = 1 := by
  constructor
  · intro h
    have sub : fixs n ps ⊆ [lab ps 0] := fun v hv => by
      have := mem_fixs.mp hv
      rw [List.mem_singleton, ← this.2]
      exact h v 0 this.1 hn
    have l1 := (fixs_nodup n ps).length_le_of_subset sub
    have hm : lab ps 0 ∈ fixs n ps := mem_fixs.mpr ⟨lab_lt ok hn, lab_idem _ _⟩
    have := List.length_pos_of_mem hm
    simp only [List.length_singleton] at l1
    unfold cnt; omega
  · intro h u v hu hv
    unfold cnt at h
    obtain ⟨r, hr⟩ := List.length_eq_one_iff.mp h
    have e : ∀ x, x < n → lab ps x = r := fun x hx => by
      have : lab ps x ∈ fixs n ps := mem_fixs.mpr ⟨lab_lt ok hx, lab_idem _ _⟩
      rw [hr, List.mem_singleton] at this
      exact this
    exact (e u hu).trans (e v hv).symm

/-! ### forests -/
def Forest (n : Nat) (ps : List Edge) : Prop := cnt n ps + ps.length = n
theorem forest_nil (n : Nat) : Forest n [] := by unfold Forest; rw [cnt_nil]; rfl
theorem forest_cons {n a b : Nat} {ps : List Edge} (ok : OkE n ((a, b) :: ps)) (f : Forest n ps) (h : ¬ cn ps a b) : Forest n ((a, b) :: ps) := by
  unfold Forest at *
  have := cnt_less ok h
  rw [List.length_cons]; omega
theorem forest_tail {n a b : Nat} {ps : List Edge} (ok : OkE n ((a, b) :: ps)) (f : Forest n ((a, b) :: ps)) : Forest n ps ∧ ¬ cn ps a b := by
  unfold Forest at *
  have g := cnt_ge ok.tail
  rw [List.length_cons] at f
  by_cases h : cn ps a b
  · rw [cnt_same h] at f; omega
  · have := cnt_less ok h
    exact ⟨by omega, h⟩
theorem forest_conn {n : Nat} {ps : List Edge} (hn : 0 < n) (ok : OkE n ps) (hl : ps.length + 1 = n) : Forest n ps ↔ Conn n ps := by
  rw [conn_iff hn ok]
  unfold Forest
  omega
/-- in a web of one group a forest that is no tree can grow -/
theorem forest_grows {n : Nat} {cs ps : List Edge} (hn : 0 < n) (ok : OkE n ps) (c : Conn n cs) (f : Forest n ps) (hl : ps.length + 1 < n) : ∃ e ∈ cs, ¬ cn ps e.1 e.2 := by
  refine Classical.byContradiction fun no => ?_
  have all : ∀ a b, (a, b) ∈ cs → cn ps a b := fun a b h => Classical.byContradiction fun q => no ⟨(a, b), h, q⟩
  have : Conn n ps := fun u v hu hv => cn_mono' all (c u v hu hv)
  have := (conn_iff hn ok).mp this
  unfold Forest at f
  omega
end Tr

/-! Webs, their couples, the sets of couples, the order of webs, the trees. -/
namespace Tr

theorem nodup_map {α β : Type} {f : α → β} {l : List α} (hn : l.Nodup) (h : ∀ a ∈ l, ∀ b ∈ l, f a = f b → a = b) : (l.map f).Nodup := by
  rw [List.nodup_iff_pairwise_ne, List.pairwise_map]
  exact List.Pairwise.imp_of_mem (fun ha hb hne e => hne (h _ ha _ hb e)) hn
def rowOf (n : Nat) (ps : List Edge) (v : Nat) : List Nat := (List.range n).filter (adj ps v)
def webOf (n : Nat) (ps : List Edge) : Web := (List.range n).map (rowOf n ps)
theorem webOf_length (n : Nat) (ps : List Edge) : (webOf n ps).length = n := by unfold webOf; rw [List.length_map, List.length_range]
theorem webOf_get {n v : Nat} (ps : List Edge) (h : v < n) : (webOf n ps)[v]? = some (rowOf n ps v) := by
  unfold webOf; rw [List.getElem?_map, List.getElem?_range h]; rfl
theorem webOf_getD {n v : Nat} (ps : List Edge) (h : v < n) : (webOf n ps).getD v [] = rowOf n ps v := by
  rw [List.getD_eq_getElem?_getD, webOf_get ps h]; rfl
theorem mem_rowOf {n v u : Nat} {ps : List Edge} : u ∈ rowOf n ps v ↔ u < n ∧ ((v, u) ∈ ps ∨ (u, v) ∈ ps) := by
  unfold rowOf; rw [List.mem_filter, List.mem_range, adj_iff]
theorem rowOf_sorted (n : Nat) (ps : List Edge) (v : Nat) : (rowOf n ps v).Pairwise (· < ·) := List.Pairwise.filter _ List.pairwise_lt_range
theorem nodup_of_lt {l : List Nat} (h : l.Pairwise (· < ·)) : l.Nodup := h.imp fun h => Nat.ne_of_lt h
theorem eq_of_lt {l m : List Nat} (hl : l.Pairwise (· < ·)) (hm : m.Pairwise (· < ·)) (h : ∀ a, a ∈ l ↔ a ∈ m) : l = m :=
  List.Perm.eq_of_pairwise (le := (· < ·)) (fun a b _ _ h1 h2 => absurd (Nat.lt_trans h1 h2) (Nat.lt_irrefl _)) hl hm ((List.perm_ext_iff_of_nodup (nodup_of_lt hl) (nodup_of_lt hm)).mpr h)
theorem rowOf_length_le (n : Nat) (ps : List Edge) (v : Nat) : (rowOf n ps v).length ≤ n := by
  have := List.length_filter_le (adj ps v) (List.range n); rw [List.length_range] at this; exact this
theorem webOf_congr {n : Nat} {ps qs : List Edge} (h : ∀ e, e ∈ ps ↔ e ∈ qs) : webOf n ps = webOf n qs := by
  unfold webOf rowOf
  have : adj ps = adj qs := by
    funext u v; rw [Bool.eq_iff_iff, adj_iff, adj_iff, h, h]
  rw [this]
theorem mem_of_web {n : Nat} {ps : List Edge} (ok : OkE n ps) {a b : Nat} (hab : a < b) (hb : b < n) : (a, b) ∈ ps ↔ b ∈ (webOf n ps).getD a [] := by
  rw [webOf_getD ps (Nat.lt_trans hab hb), mem_rowOf]
  constructor
  · intro h; exact ⟨hb, .inl h⟩
  · rintro ⟨_, h | h⟩
    · exact h
    · exact absurd (ok _ h).1 (Nat.lt_asymm hab)
theorem webOf_inj {n : Nat} {ps qs : List Edge} (okp : OkE n ps) (okq : OkE n qs) (h : webOf n ps = webOf n qs) (e : Edge) : e ∈ ps ↔ e ∈ qs := by
  obtain ⟨a, b⟩ := e
  constructor
  · intro he
    have := okp _ he
    rw [mem_of_web okq this.1 this.2, ← h, ← mem_of_web okp this.1 this.2]; exact he
  · intro he
    have := okq _ he
    rw [mem_of_web okp this.1 this.2, h, ← mem_of_web okq this.1 this.2]; exact he

/-! ### couples -/
def pairsAt (w : Web) (a : Nat) : List Edge := ((w.getD a []).filter fun b => decide (a < b)).map fun b => (a, b)
def pairsOf (w : Web) : List Edge := (List.range w.length).flatMap (pairsAt w)
theorem mem_pairsOf {n : Nat} {ps : List Edge} (ok : OkE n ps) (e : Edge) : e ∈ pairsOf (webOf n ps) ↔ e ∈ ps := by
  obtain ⟨a, b⟩ := e
  unfold pairsOf pairsAt
  rw [List.mem_flatMap, webOf_length]
  constructor
  · rintro ⟨c, hc, hm⟩
    obtain ⟨d, hd, hde⟩ := List.mem_map.mp hm
    cases hde
    rw [List.mem_filter, decide_eq_true_eq] at hd
    have hd1 := hd.1
    rw [webOf_getD ps (List.mem_range.mp hc), mem_rowOf] at hd1
    rcases hd1.2 with h | h
    · exact h
    · exact absurd (ok _ h).1 (Nat.lt_asymm hd.2)
  · intro h
    have hb := ok _ h
    refine ⟨a, List.mem_range.mpr (Nat.lt_trans hb.1 hb.2), List.mem_map.mpr ⟨b, List.mem_filter.mpr ⟨?_, decide_eq_true hb.1⟩, rfl⟩⟩
    rw [webOf_getD ps (Nat.lt_trans hb.1 hb.2), mem_rowOf]
    exact ⟨hb.2, .inl h⟩
theorem pairsOf_nodup {n : Nat} {ps : List Edge} : (pairsOf (webOf n ps)).Nodup := by
  unfold pairsOf
  rw [List.nodup_iff_pairwise_ne, List.pairwise_flatMap, webOf_length]
  constructor
  · intro a ha
    unfold pairsAt
    rw [webOf_getD ps (List.mem_range.mp ha)]
    exact nodup_map (nodup_of_lt (List.Pairwise.filter _ (rowOf_sorted n ps a))) fun x _ y _ e => by cases e; rfl
  · refine List.pairwise_lt_range.imp ?_
    intro a b hab x hx y hy e
    obtain ⟨c, _, rfl⟩ := List.mem_map.mp hx
    obtain ⟨d, _, rfl⟩ := List.mem_map.mp hy
    cases e
    exact absurd hab (Nat.lt_irrefl _)
theorem pairsOf_ok {n : Nat} {ps : List Edge} (ok : OkE n ps) : OkE n (pairsOf (webOf n ps)) := fun p hp => ok p ((mem_pairsOf ok p).mp hp)
theorem webOf_pairsOf {n : Nat} {ps : List Edge} (ok : OkE n ps) : webOf n (pairsOf (webOf n ps)) = webOf n ps := webOf_congr (mem_pairsOf ok)

/-! ### the groups -/
def groupOf (n : Nat) (ps : List Edge) (p : Nat) : List Nat := (List.range n).filter fun u => decide (cn ps p u)
theorem mem_groupOf {n p u : Nat} {ps : List Edge} : u ∈ groupOf n ps p ↔ u < n ∧ cn ps p u := by
  unfold groupOf; rw [List.mem_filter, List.mem_range, decide_eq_true_eq]
theorem groupOf_sorted (n : Nat) (ps : List Edge) (p : Nat) : (groupOf n ps p).Pairwise (· < ·) := List.Pairwise.filter _ List.pairwise_lt_range
theorem groupOf_eq {n p q : Nat} {ps : List Edge} (hp : p < n) (hq : q < n) : groupOf n ps p = groupOf n ps q ↔ cn ps p q := by
  constructor
  · intro h
    have : q ∈ groupOf n ps q := mem_groupOf.mpr ⟨hq, rfl⟩
    rw [← h] at this
    exact (mem_groupOf.mp this).2
  · intro h
    refine eq_of_lt (groupOf_sorted ..) (groupOf_sorted ..) fun a => ?_
    rw [mem_groupOf, mem_groupOf]
    exact ⟨fun ⟨x, y⟩ => ⟨x, h.symm.trans y⟩, fun ⟨x, y⟩ => ⟨x, h.trans y⟩⟩
/-- the number of the groups -/
theorem groups_cnt {n : Nat} {ps : List Edge} (ok : OkE n ps) {gs : List (List Nat)} (nd : gs.Nodup) (h : ∀ g, g ∈ gs ↔ ∃ p, p < n ∧ g = groupOf n ps p) : gs.length = cnt n ps := by
  have nd2 : ((fixs n ps).map (groupOf n ps)).Nodup := nodup_map (fixs_nodup n ps) fun a ha b hb e => by
    have ha := mem_fixs.mp ha
    have hb := mem_fixs.mp hb
    have := (groupOf_eq ha.1 hb.1).mp e
    unfold cn at this
    rw [ha.2, hb.2] at this
    exact this
  have : gs.Perm ((fixs n ps).map (groupOf n ps)) := (List.perm_ext_iff_of_nodup nd nd2).mpr fun g => by
    rw [h, List.mem_map]
    constructor
    · rintro ⟨p, hp, rfl⟩
      have hl := lab_lt ok hp
      exact ⟨lab ps p, mem_fixs.mpr ⟨hl, lab_idem _ _⟩, (groupOf_eq hl hp).mpr (lab_idem _ _)⟩
    · rintro ⟨p, hp, rfl⟩
      exact ⟨p, (mem_fixs.mp hp).1, rfl⟩
  rw [this.length_eq, List.length_map]; rfl

/-! ### the sets of couples -/
section
variable {α β : Type}
def subsL (l : List α) : List (List α) := l.foldl (fun acc x => acc ++ acc.map (· ++ [x])) [[]]
theorem subsL_snoc (l : List α) (x : α) : subsL (l ++ [x]) = subsL l ++ (subsL l).map (· ++ [x]) := by
  unfold subsL; rw [List.foldl_append]; rfl
theorem snoc_ind {P : List α → Prop} (h0 : P []) (hs : ∀ l x, P l → P (l ++ [x])) : ∀ l, P l := by
  have : ∀ k (l : List α), l.length = k → P l := by
    intro k
    induction k with
    | zero => intro l hl; rw [List.length_eq_zero_iff.mp hl]; exact h0
    | succ k ih =>
      intro l hl
      rcases List.eq_nil_or_concat l with rfl | ⟨m, x, rfl⟩
      · exact h0
      · rw [List.concat_eq_append] at hl ⊢
        rw [List.length_append, List.length_singleton] at hl
        exact hs _ _ (ih m (by omega))
  exact fun l => this _ l rfl
theorem sub_one {l : List α} {x : α} : l.Sublist [x] ↔ l = [] ∨ l = [x] := by
  constructor
  · intro h
    cases h with
    | cons _ h => exact .inl (List.eq_nil_of_sublist_nil h)
    | cons_cons _ h => exact .inr (by rw [List.eq_nil_of_sublist_nil h])
  · rintro (rfl | rfl)
    · exact List.nil_sublist _
    · exact List.Sublist.refl _
theorem mem_subsL' (l : List α) : ∀ F : List α, F ∈ subsL l ↔ F.Sublist l := by
  refine snoc_ind (P := fun l => ∀ F, F ∈ subsL l ↔ F.Sublist l) ?_ ?_ l
  · intro F
    show F ∈ [[]] ↔ _
    rw [List.mem_singleton]
    exact ⟨fun h => by rw [h]; exact List.nil_sublist _, List.eq_nil_of_sublist_nil⟩
  · intro l x ih F
    rw [subsL_snoc, List.mem_append, ih, List.mem_map, List.sublist_append_iff]
    constructor
    · rintro (h | ⟨G, hG, rfl⟩)
      · exact ⟨F, [], by simp, h, List.nil_sublist _⟩
      · exact ⟨G, [x], rfl, (ih G).mp hG, List.Sublist.refl _⟩
    · rintro ⟨F1, F2, rfl, h1, h2⟩
      rcases sub_one.mp h2 with rfl | rfl
      · rw [List.append_nil]; exact .inl h1
      · exact .inr ⟨F1, (ih F1).mpr h1, rfl⟩
theorem mem_subsL {l F : List α} : F ∈ subsL l ↔ F.Sublist l := mem_subsL' l F
theorem subsL_nodup {l : List α} (hl : l.Nodup) : (subsL l).Nodup := by
  revert hl
  refine snoc_ind (P := fun l => l.Nodup → (subsL l).Nodup) ?_ ?_ l
  · intro _; exact List.nodup_cons.mpr ⟨by simp, List.nodup_nil⟩
  · intro l x ih hl
    have hl' := List.nodup_append.mp hl
    rw [subsL_snoc, List.nodup_append]
    refine ⟨ih hl'.1, nodup_map (ih hl'.1) fun a _ b _ e => List.append_cancel_right e, fun a ha b hb e => ?_⟩
    obtain ⟨c, hc, rfl⟩ := List.mem_map.mp hb
    subst e
    have hx : x ∈ l := (mem_subsL.mp ha).subset (List.mem_append_right _ (List.mem_singleton.mpr rfl))
    exact hl'.2.2 x hx x (List.mem_singleton.mpr rfl) rfl
theorem subsL_map (f : α → β) (l : List α) : subsL (l.map f) = (subsL l).map (List.map f) := by
  refine snoc_ind (P := fun l => subsL (l.map f) = (subsL l).map (List.map f)) rfl ?_ l
  intro l x ih
  rw [List.map_append, List.map_singleton, subsL_snoc, ih, subsL_snoc, List.map_append, List.map_map, List.map_map]
  congr 1
  refine List.map_congr_left fun a _ => ?_
  simp
theorem range_getD (d : α) (l : List α) : (List.range l.length).map (fun i => l.getD i d) = l := by
  apply List.ext_getElem?
  intro i
  rw [List.getElem?_map]
  by_cases h : i < l.length
  · rw [List.getElem?_range h, List.getElem?_eq_getElem h]
    simp [List.getD_eq_getElem?_getD, h]
  · rw [List.getElem?_eq_none (by rw [List.length_range]; omega), List.getElem?_eq_none (by omega)]; rfl
/-- all sets by their places -/
theorem subsL_places (d : α) (l : List α) : (subsL (List.range l.length)).map (List.map fun i => l.getD i d) = subsL l := by
  rw [← subsL_map, range_getD]
theorem subsL_length (l : List α) : (subsL l).length = 2 ^ l.length := by
  refine snoc_ind (P := fun l => (subsL l).length = 2 ^ l.length) rfl ?_ l
  intro l x ih
  rw [subsL_snoc, List.length_append, List.length_map, ih, List.length_append, List.length_singleton, Nat.pow_succ]; omega
end

/-! ### the order of webs -/
section
variable {α : Type} [DecidableEq α]
def ltL (lt : α → α → Bool) : List α → List α → Bool
  | [], [] => false
  | [], _ :: _ => true
  | _ :: _, [] => false
  | x :: xs, y :: ys => if x = y then ltL lt xs ys else lt x y
theorem ltL_tri {lt : α → α → Bool} (h : ∀ x y, lt x y = false → lt y x = false → x = y) : ∀ xs ys, ltL lt xs ys = false → ltL lt ys xs = false → xs = ys
  | [], [], _, _ => rfl
  | [], _ :: _, h1, _ => by simp [ltL] at h1
  | _ :: _, [], _, h2 => by simp [ltL] at h2
  | x :: xs, y :: ys, h1, h2 => by
    unfold ltL at h1 h2
    by_cases e : x = y
    · subst e
      rw [if_pos rfl] at h1 h2
      rw [ltL_tri h xs ys h1 h2]
    · rw [if_neg e] at h1
      rw [if_neg (Ne.symm e)] at h2
      exact absurd (h x y h1 h2) e
end
def ltN (a b : Nat) : Bool := decide (a < b)
theorem ltN_tri (x y : Nat) (h1 : ltN x y = false) (h2 : ltN y x = false) : x = y := by
  unfold ltN at *; rw [decide_eq_false_iff_not] at h1 h2; omega
def ltR : List Nat → List Nat → Bool := ltL ltN
def ltW : Web → Web → Bool := ltL ltR
theorem ltW_tri (x y : Web) : ltW x y = false → ltW y x = false → x = y := ltL_tri (fun x y => ltL_tri ltN_tri x y) x y
def leW (a b : Web) : Bool := !ltW b a
theorem leW_anti (a b : Web) (h1 : leW a b = true) (h2 : leW b a = true) : a = b := by
  unfold leW at *; rw [Bool.not_eq_true'] at h1 h2; exact ltW_tri a b h2 h1

/-! ### the trees of a web -/
def isTreeB (n : Nat) (F : List Edge) : Bool := decide (F.length + 1 = n) && decide (cnt n F = 1)
def cands (n : Nat) (cs : List Edge) : List Web := ((subsL cs).filter (isTreeB n)).map (webOf n)
theorem isTreeB_iff {n : Nat} {F : List Edge} : isTreeB n F = true ↔ F.length + 1 = n ∧ cnt n F = 1 := by
  unfold isTreeB; rw [Bool.and_eq_true, decide_eq_true_eq, decide_eq_true_eq]
theorem sub_ext {cs F G : List Edge} (hn : cs.Nodup) (hF : F.Sublist cs) (hG : G.Sublist cs) (h : ∀ e, e ∈ F ↔ e ∈ G) : F = G := by
  have key : ∀ {F : List Edge}, F.Sublist cs → F = cs.filter fun e => decide (e ∈ F) := fun {F} hF => by
    have hs : F.Sublist (cs.filter fun e => decide (e ∈ F)) := by
      have := hF.filter (fun e => decide (e ∈ F))
      rw [List.filter_eq_self.mpr (fun e he => decide_eq_true he)] at this
      exact this
    refine hs.eq_of_length_le ?_
    refine List.Nodup.length_le_of_subset (List.Pairwise.filter _ hn) fun e he => ?_
    exact of_decide_eq_true (List.mem_filter.mp he).2
  rw [key hF, key hG]
  refine List.filter_congr fun e _ => ?_
  rw [Bool.eq_iff_iff, decide_eq_true_eq, decide_eq_true_eq]; exact h e
theorem mem_cands {n : Nat} {cs : List Edge} {t : Web} : t ∈ cands n cs ↔ ∃ F, F.Sublist cs ∧ F.length + 1 = n ∧ cnt n F = 1 ∧ t = webOf n F := by
  unfold cands
  rw [List.mem_map]
  constructor
  · rintro ⟨F, hF, rfl⟩
    have := List.mem_filter.mp hF
    have h2 := isTreeB_iff.mp this.2
    exact ⟨F, mem_subsL.mp this.1, h2.1, h2.2, rfl⟩
  · rintro ⟨F, h1, h2, h3, rfl⟩
    exact ⟨F, List.mem_filter.mpr ⟨mem_subsL.mpr h1, isTreeB_iff.mpr ⟨h2, h3⟩⟩, rfl⟩
theorem cands_nodup {n : Nat} {cs : List Edge} (hn : cs.Nodup) (ok : OkE n cs) : (cands n cs).Nodup := by
  unfold cands
  refine nodup_map (List.Pairwise.filter _ (subsL_nodup hn)) fun F hF G hG e => ?_
  have hF := mem_subsL.mp (List.mem_filter.mp hF).1
  have hG := mem_subsL.mp (List.mem_filter.mp hG).1
  exact sub_ext hn hF hG (webOf_inj (ok.sub fun p hp => hF.subset hp) (ok.sub fun p hp => hG.subset hp) e)
def treesOf (n : Nat) (cs : List Edge) : List Web := (cands n cs).mergeSort leW

/-! ### the turns of the forests -/
/-- a forest of k couples of cs -/
def Sub (n : Nat) (cs : List Edge) (k : Nat) (F : List Edge) : Prop := F.Sublist cs ∧ F.length = k ∧ Forest n F
theorem Sub.ok {n k : Nat} {cs F : List Edge} (ok : OkE n cs) (h : Sub n cs k F) : OkE n F := ok.sub fun p hp => h.1.subset hp
/-- a couple more -/
def plus (cs F : List Edge) (e : Edge) : List Edge := cs.filter fun p => decide (p ∈ e :: F)
theorem mem_plus {cs F : List Edge} {e : Edge} (hF : F.Sublist cs) (he : e ∈ cs) (p : Edge) : p ∈ plus cs F e ↔ p ∈ e :: F := by
  unfold plus
  rw [List.mem_filter, decide_eq_true_eq]
  constructor
  · exact fun h => h.2
  · intro h
    refine ⟨?_, h⟩
    rcases List.mem_cons.mp h with rfl | h
    · exact he
    · exact hF.subset h
theorem sub_plus {n k : Nat} {cs F : List Edge} {e : Edge} (hn : cs.Nodup) (ok : OkE n cs) (h : Sub n cs k F) (he : e ∈ cs) (hc : ¬ cn F e.1 e.2) : Sub n cs (k + 1) (plus cs F e) := by
  obtain ⟨h1, h2, h3⟩ := h
  have okF : OkE n F := ok.sub fun p hp => h1.subset hp
  have okE : OkE n (e :: F) := fun p hp => by
    rcases List.mem_cons.mp hp with rfl | hp
    · exact ok _ he
    · exact okF p hp
  have nF : e ∉ F := fun z => hc (cn_edge z)
  have nd : (e :: F).Nodup := List.nodup_cons.mpr ⟨nF, h1.nodup hn⟩
  have pm : (plus cs F e).Perm (e :: F) := (List.perm_ext_iff_of_nodup (List.Pairwise.filter _ hn) nd).mpr (mem_plus h1 he)
  have hsub : (plus cs F e).Sublist cs := List.filter_sublist
  refine ⟨hsub, by rw [pm.length_eq, List.length_cons, h2], ?_⟩
  have f := forest_cons (a := e.1) (b := e.2) okE h3 hc
  unfold Forest at *
  rw [cnt_congr (ok.sub fun p hp => hsub.subset hp) okE (mem_plus h1 he), pm.length_eq]
  exact f
theorem cn_plus {cs F : List Edge} {e : Edge} (hF : F.Sublist cs) (he : e ∈ cs) (u v : Nat) : cn (plus cs F e) u v ↔ cn (e :: F) u v :=
  ⟨cn_mono fun p hp => (mem_plus hF he p).mp hp, cn_mono fun p hp => (mem_plus hF he p).mpr hp⟩
theorem web_plus {n : Nat} {cs F G : List Edge} {e : Edge} (hF : F.Sublist cs) (he : e ∈ cs) (hG : ∀ p, p ∈ G ↔ p ∈ e :: F) : webOf n G = webOf n (plus cs F e) :=
  webOf_congr fun p => (hG p).trans (mem_plus hF he p).symm
/-- labels that tell the classes -/
def LabOk (n : Nat) (F : List Edge) (g : List Nat) : Prop := g.length = n ∧ ∀ u v, u < n → v < n → (g[u]? = g[v]? ↔ cn F u v)
theorem labOk_start (n : Nat) : LabOk n [] (List.range n) := by
  refine ⟨List.length_range, fun u v hu hv => ?_⟩
  rw [List.getElem?_range hu, List.getElem?_range hv]
  show some u = some v ↔ u = v
  exact ⟨fun h => Option.some.inj h, fun h => by rw [h]⟩
def relab (old new : Nat) (g : List Nat) : List Nat := g.map fun x => if x = old then new else x
theorem labOk_turn {n : Nat} {F : List Edge} {e : Edge} {g : List Nat} {ga gb old new : Nat} (h : LabOk n F g) (h1 : e.1 < n) (h2 : e.2 < n) (ea : g[e.1]? = some ga) (eb : g[e.2]? = some gb)
    (ho : (old = ga ∧ new = gb) ∨ (old = gb ∧ new = ga)) : LabOk n (e :: F) (relab old new g) := by
  obtain ⟨hl, hg⟩ := h
  refine ⟨by unfold relab; rw [List.length_map, hl], fun u v hu hv => ?_⟩
  obtain ⟨a, b⟩ := e
  simp only at h1 h2 ea eb
  obtain ⟨gu, eu⟩ : ∃ x, g[u]? = some x := ⟨_, List.getElem?_eq_getElem (by omega)⟩
  obtain ⟨gv, ev⟩ : ∃ x, g[v]? = some x := ⟨_, List.getElem?_eq_getElem (by omega)⟩
  have key : ∀ {x y gx gy : Nat}, x < n → y < n → g[x]? = some gx → g[y]? = some gy → (cn F x y ↔ gx = gy) := fun {x y gx gy} hx hy ex ey => by
    rw [← hg x y hx hy, ex, ey]
    exact ⟨fun h => Option.some.inj h, fun h => by rw [h]⟩
  rw [cn_cons, key hu hv eu ev, key hu h1 eu ea, key hu h2 eu eb, key hv h1 ev ea, key hv h2 ev eb]
  unfold relab
  rw [List.getElem?_map, List.getElem?_map, eu, ev]
  show some (if gu = old then new else gu) = some (if gv = old then new else gv) ↔ _
  rw [Option.some.injEq]
  rcases ho with ⟨rfl, rfl⟩ | ⟨rfl, rfl⟩
  · by_cases c1 : gu = old <;> by_cases c2 : gv = old
    · simp [c1, c2]
    · rw [if_pos c1, if_neg c2]
      constructor
      · intro z; exact .inr ⟨.inl c1, .inr z.symm⟩
      · rintro (z | ⟨_, z | z⟩)
        · exact absurd (z.symm.trans c1) c2
        · exact absurd z c2
        · exact z.symm
    · rw [if_neg c1, if_pos c2]
      constructor
      · intro z; exact .inr ⟨.inr z, .inl c2⟩
      · rintro (z | ⟨z | z, _⟩)
        · exact absurd (z.trans c2) c1
        · exact absurd z c1
        · exact z
    · rw [if_neg c1, if_neg c2]
      constructor
      · exact .inl
      · rintro (z | ⟨z | z, y | y⟩)
        · exact z
        · exact absurd z c1
        · exact absurd z c1
        · exact absurd y c2
        · exact z.trans y.symm
  · by_cases c1 : gu = old <;> by_cases c2 : gv = old
    · simp [c1, c2]
    · rw [if_pos c1, if_neg c2]
      constructor
      · intro z; exact .inr ⟨.inr c1, .inl z.symm⟩
      · rintro (z | ⟨_, z | z⟩)
        · exact absurd (z.symm.trans c1) c2
        · exact z.symm
        · exact absurd z c2
    · rw [if_neg c1, if_pos c2]
      constructor
      · intro z; exact .inr ⟨.inl z, .inr c2⟩
      · rintro (z | ⟨z | z, _⟩)
        · exact absurd (z.trans c2) c1
        · exact z
        · exact absurd z c1
    · rw [if_neg c1, if_neg c2]
      constructor
      · exact .inl
      · rintro (z | ⟨z | z, y | y⟩)
        · exact z
        · exact z.trans y.symm
        · exact absurd y c2
        · exact absurd z c1
        · exact absurd z c1
theorem LabOk.congr {n : Nat} {F G : List Edge} {g : List Nat} (h : LabOk n F g) (k : ∀ u v, cn F u v ↔ cn G u v) : LabOk n G g :=
  ⟨h.1, fun u v hu hv => (h.2 u v hu hv).trans (k u v)⟩
/-- what a dict of forests holds behind k turns: its keys, their labels -/
structure Turned (n : Nat) (cs : List Edge) (k : Nat) (kvs : List (Web × List Nat)) : Prop where
  nd : (kvs.map (·.1)).Nodup
  sound : ∀ w g, (w, g) ∈ kvs → ∃ F, Sub n cs k F ∧ w = webOf n F ∧ LabOk n F g
  full : ∀ F, Sub n cs k F → webOf n F ∈ kvs.map (·.1)
theorem turned_start (n : Nat) (cs : List Edge) : Turned n cs 0 [(webOf n [], List.range n)] where
  nd := by simp
  sound w g h := by
    have h := List.mem_singleton.mp h
    cases h
    exact ⟨[], ⟨List.nil_sublist _, rfl, forest_nil n⟩, rfl, labOk_start n⟩
  full F h := by
    rw [List.length_eq_zero_iff.mp h.2.1]
    simp
/-- the keys are the trees at the end -/
theorem turned_end {n : Nat} {cs : List Edge} {kvs : List (Web × List Nat)} (hn : 0 < n) (hnd : cs.Nodup) (ok : OkE n cs) (h : Turned n cs (n - 1) kvs) : (kvs.map (·.1)).Perm (cands n cs) := by
  refine (List.perm_ext_iff_of_nodup h.nd (cands_nodup hnd ok)).mpr fun t => ?_
  rw [mem_cands]
  constructor
  · intro ht
    obtain ⟨⟨w, g⟩, hm, rfl⟩ := List.mem_map.mp ht
    obtain ⟨F, hF, rfl, _⟩ := h.sound w g hm
    have hl : F.length + 1 = n := by rw [hF.2.1]; omega
    exact ⟨F, hF.1, hl, (conn_iff hn (hF.ok ok)).mp ((forest_conn hn (hF.ok ok) hl).mp hF.2.2), rfl⟩
  · rintro ⟨F, h1, h2, h3, rfl⟩
    have okF : OkE n F := ok.sub fun p hp => h1.subset hp
    exact h.full F ⟨h1, by omega, (forest_conn hn okF h2).mpr ((conn_iff hn okF).mpr h3)⟩
/-- a web of one group has a tree -/
theorem sub_some {n : Nat} {cs : List Edge} (hn : 0 < n) (hnd : cs.Nodup) (ok : OkE n cs) (c : Conn n cs) : ∀ k, k < n → ∃ F, Sub n cs k F
  | 0, _ => ⟨[], List.nil_sublist _, rfl, forest_nil n⟩
  | k + 1, hk => by
    obtain ⟨F, hF⟩ := sub_some hn hnd ok c k (by omega)
    obtain ⟨e, he, hc⟩ := forest_grows hn (hF.ok ok) c hF.2.2 (by rw [hF.2.1]; omega)
    exact ⟨_, sub_plus hnd ok hF he hc⟩
/-! ### one turn -/
section
variable {α β : Type} [DecidableEq α]
def put (kvs : List (α × β)) (k : α) (v : β) : List (α × β) := if k ∈ kvs.map (·.1) then kvs.map fun p => if p.1 = k then (k, v) else p else kvs ++ [(k, v)]
theorem mem_put {kvs : List (α × β)} {k : α} {v : β} {p : α × β} (h : p ∈ put kvs k v) : p = (k, v) ∨ p ∈ kvs := by
  unfold put at h
  split at h
  · obtain ⟨q, hq, rfl⟩ := List.mem_map.mp h
    split
    · exact .inl rfl
    · exact .inr hq
  · rcases List.mem_append.mp h with h | h
    · exact .inr h
    · exact .inl (List.mem_singleton.mp h)
theorem keys_put {kvs : List (α × β)} {k : α} {v : β} : (put kvs k v).map (·.1) = if k ∈ kvs.map (·.1) then kvs.map (·.1) else kvs.map (·.1) ++ [k] := by
  unfold put
  split
  · rw [List.map_map]
    refine List.map_congr_left fun p _ => ?_
    simp only [Function.comp]
    split
    · rename_i e; exact e.symm
    · rfl
  · rw [List.map_append]; rfl
theorem mem_keys_put {kvs : List (α × β)} {k x : α} {v : β} : x ∈ (put kvs k v).map (·.1) ↔ x = k ∨ x ∈ kvs.map (·.1) := by
  rw [keys_put]
  split
  · rename_i h
    exact ⟨.inr, fun z => z.elim (fun e => e ▸ h) id⟩
  · rw [List.mem_append, List.mem_singleton]
    exact Or.comm
theorem nodup_put {kvs : List (α × β)} {k : α} {v : β} (h : (kvs.map (·.1)).Nodup) : ((put kvs k v).map (·.1)).Nodup := by
  rw [keys_put]
  split
  · exact h
  · rename_i hk
    rw [List.nodup_append]
    refine ⟨h, by simp, fun a ha b hb e => ?_⟩
    rw [List.mem_singleton.mp hb] at e
    exact hk (e ▸ ha)
theorem length_put (kvs : List (α × β)) (k : α) (v : β) : (put kvs k v).length ≤ kvs.length + 1 := by
  unfold put
  split
  · rw [List.length_map]; omega
  · rw [List.length_append]; exact Nat.le_refl _
end
/-- the dict of the next turn while it is filled; P: what is done -/
structure Later (n : Nat) (cs : List Edge) (k : Nat) (P : Web → Edge → Prop) (kvs : List (Web × List Nat)) : Prop where
  nd : (kvs.map (·.1)).Nodup
  sound : ∀ w g, (w, g) ∈ kvs → ∃ F, Sub n cs (k + 1) F ∧ w = webOf n F ∧ LabOk n F g
  full : ∀ F e, Sub n cs k F → e ∈ cs → ¬ cn F e.1 e.2 → P (webOf n F) e → webOf n (plus cs F e) ∈ kvs.map (·.1)
theorem later_start (n : Nat) (cs : List Edge) (k : Nat) {P : Web → Edge → Prop} (h : ∀ w e, ¬ P w e) : Later n cs k P [] :=
  ⟨List.nodup_nil, fun _ _ h => (nomatch h), fun _ _ _ _ _ z => (h _ _ z).elim⟩
theorem Later.mono {n k : Nat} {cs : List Edge} {P P' : Web → Edge → Prop} {kvs : List (Web × List Nat)} (h : Later n cs k P kvs) (q : ∀ w e, P' w e → P w e) : Later n cs k P' kvs :=
  ⟨h.nd, h.sound, fun F e hF he hc hp => h.full F e hF he hc (q _ _ hp)⟩
/-- a couple within a class: nothing is stored -/
theorem Later.skip {n k : Nat} {cs F : List Edge} {e : Edge} {P : Web → Edge → Prop} {kvs : List (Web × List Nat)} (h : Later n cs k P kvs) (ok : OkE n cs) (hF : Sub n cs k F) (hc : cn F e.1 e.2) : Later n cs k (fun w x => P w x ∨ (w = webOf n F ∧ x = e)) kvs := by
  refine ⟨h.nd, h.sound, fun G x hG hx hcx hp => ?_⟩
  rcases hp with hp | ⟨hp, rfl⟩
  · exact h.full G x hG hx hcx hp
  · exfalso
    have hm := webOf_inj (hG.ok ok) (hF.ok ok) hp
    exact hcx (cn_mono (fun p hp => (hm p).mpr hp) hc)
/-- a couple between two classes: stored -/
theorem Later.store {n k : Nat} {cs F G : List Edge} {e : Edge} {g : List Nat} {P : Web → Edge → Prop} {kvs : List (Web × List Nat)} (h : Later n cs k P kvs) (hnd : cs.Nodup) (ok : OkE n cs) (hF : Sub n cs k F) (he : e ∈ cs) (hc : ¬ cn F e.1 e.2)
    (hG : ∀ p, p ∈ G ↔ p ∈ e :: F) (hg : LabOk n (e :: F) g) : Later n cs k (fun w x => P w x ∨ (w = webOf n F ∧ x = e)) (put kvs (webOf n G) g) := by
  refine ⟨nodup_put h.nd, fun w l hm => ?_, fun D x hD hx hcx hp => ?_⟩
  · rcases mem_put hm with e1 | hm
    · cases e1
      exact ⟨plus cs F e, sub_plus hnd ok hF he hc, web_plus hF.1 he hG, hg.congr fun u v => (cn_plus hF.1 he u v).symm⟩
    · exact h.sound w l hm
  · rw [mem_keys_put]
    rcases hp with hp | ⟨hp, rfl⟩
    · exact .inr (h.full D x hD hx hcx hp)
    · left
      have hm := webOf_inj (hD.ok ok) (hF.ok ok) hp
      refine webOf_congr fun p => ?_
      rw [mem_plus hD.1 he, hG, List.mem_cons, List.mem_cons, hm]
/-- all is done: the next turn -/
theorem Later.turned {n k : Nat} {cs : List Edge} {kvs found : List (Web × List Nat)} {P : Web → Edge → Prop} (h : Later n cs k P kvs) (ok : OkE n cs) (hf : Turned n cs k found) (all : ∀ w e, w ∈ found.map (·.1) → e ∈ cs → P w e) : Turned n cs (k + 1) kvs := by
  refine ⟨h.nd, h.sound, fun F hF => ?_⟩
  obtain ⟨h1, h2, h3⟩ := id hF
  cases F with
  | nil => cases h2
  | cons e F =>
    have okF := hF.ok ok
    obtain ⟨f, hc⟩ := forest_tail (a := e.1) (b := e.2) okF h3
    have hs : F.Sublist cs := (List.sublist_cons_self e F).trans h1
    have hF' : Sub n cs k F := ⟨hs, Nat.succ.inj h2, f⟩
    have he : e ∈ cs := h1.subset List.mem_cons_self
    have := h.full F e hF' he hc (all _ _ (hf.full F hF') he)
    rw [← web_plus hs he (fun p => Iff.rfl)] at this
    exact this
theorem cands_some {n : Nat} {cs : List Edge} (hn : 0 < n) (hnd : cs.Nodup) (ok : OkE n cs) (c : Conn n cs) : cands n cs ≠ [] := by
  obtain ⟨F, hF⟩ := sub_some hn hnd ok c (n - 1) (by omega)
  have hl : F.length + 1 = n := by rw [hF.2.1]; omega
  have : webOf n F ∈ cands n cs := mem_cands.mpr ⟨F, hF.1, hl, (conn_iff hn (hF.ok ok)).mp ((forest_conn hn (hF.ok ok) hl).mp hF.2.2), rfl⟩
  intro e
  rw [e] at this
  cases this

/-! ### leaves -/
def leaves (t : Web) : Nat := (t.filter fun r => decide (r.length = 1)).length
/-- the first of those with the most -/
structure IsMost (f : Web → Nat) (ts : List Web) (i : Nat) (b : Web) : Prop where
  at_ : ts[i]? = some b
  le : ∀ t ∈ ts, f t ≤ f b
  first : ∀ j t, j < i → ts[j]? = some t → f t < f b
theorem IsMost.one {f : Web → Nat} {ts : List Web} {i j : Nat} {b c : Web} (h : IsMost f ts i b) (k : IsMost f ts j c) : b = c := by
  have e : i = j := by
    rcases Nat.lt_trichotomy i j with q | q | q
    · exact absurd (k.first i b q h.at_) (Nat.not_lt.mpr (h.le c (List.mem_of_getElem? k.at_)))
    · exact q
    · exact absurd (h.first j c q k.at_) (Nat.not_lt.mpr (k.le b (List.mem_of_getElem? h.at_)))
  subst e
  exact Option.some.inj (h.at_.symm.trans k.at_)
def stepM (f : Web → Nat) (a y : Web) : Web := if f a < f y then y else a
theorem isMost_fold (f : Web → Nat) : ∀ (rest pre : List Web) (i : Nat) (a : Web), IsMost f pre i a → ∃ j, IsMost f (pre ++ rest) j (rest.foldl (stepM f) a)
  | [], pre, i, a, h => ⟨i, by rw [List.append_nil]; exact h⟩
  | y :: rest, pre, i, a, h => by
    have hi : i < pre.length := (List.getElem?_eq_some_iff.mp h.at_).1
    have e : pre ++ y :: rest = (pre ++ [y]) ++ rest := by simp
    rw [e, List.foldl_cons]
    by_cases c : f a < f y
    · have : stepM f a y = y := if_pos c
      rw [this]
      refine isMost_fold f rest (pre ++ [y]) pre.length y ⟨by simp, fun t ht => ?_, fun j t hj ht => ?_⟩
      · rcases List.mem_append.mp ht with ht | ht
        · exact Nat.le_of_lt (Nat.lt_of_le_of_lt (h.le t ht) c)
        · rw [List.mem_singleton.mp ht]; exact Nat.le_refl _
      · rw [List.getElem?_append_left hj] at ht
        exact Nat.lt_of_le_of_lt (h.le t (List.mem_of_getElem? ht)) c
    · have : stepM f a y = a := if_neg c
      rw [this]
      refine isMost_fold f rest (pre ++ [y]) i a ⟨by rw [List.getElem?_append_left hi]; exact h.at_, fun t ht => ?_, fun j t hj ht => ?_⟩
      · rcases List.mem_append.mp ht with ht | ht
        · exact h.le t ht
        · rw [List.mem_singleton.mp ht]; exact Nat.not_lt.mp c
      · rw [List.getElem?_append_left (Nat.lt_trans hj hi)] at ht
        exact h.first j t hj ht
theorem isMost_start (f : Web → Nat) (a : Web) (rest : List Web) : ∃ j, IsMost f (a :: rest) j (rest.foldl (stepM f) a) :=
  isMost_fold f rest [a] 0 a ⟨rfl, fun t ht => by rw [List.mem_singleton.mp ht]; exact Nat.le_refl _, fun j t hj => absurd hj (Nat.not_lt_zero _)⟩
structure IsFew (f : Web → Nat) (ts : List Web) (i : Nat) (b : Web) : Prop where
  at_ : ts[i]? = some b
  le : ∀ t ∈ ts, f b ≤ f t
  first : ∀ j t, j < i → ts[j]? = some t → f b < f t
theorem IsFew.one {f : Web → Nat} {ts : List Web} {i j : Nat} {b c : Web} (h : IsFew f ts i b) (k : IsFew f ts j c) : b = c := by
  have e : i = j := by
    rcases Nat.lt_trichotomy i j with q | q | q
    · exact absurd (k.first i b q h.at_) (Nat.not_lt.mpr (h.le c (List.mem_of_getElem? k.at_)))
    · exact q
    · exact absurd (h.first j c q k.at_) (Nat.not_lt.mpr (k.le b (List.mem_of_getElem? h.at_)))
  subst e
  exact Option.some.inj (h.at_.symm.trans k.at_)
def stepF (f : Web → Nat) (a y : Web) : Web := if f y < f a then y else a
theorem isFew_fold (f : Web → Nat) : ∀ (rest pre : List Web) (i : Nat) (a : Web), IsFew f pre i a → ∃ j, IsFew f (pre ++ rest) j (rest.foldl (stepF f) a)
  | [], pre, i, a, h => ⟨i, by rw [List.append_nil]; exact h⟩
  | y :: rest, pre, i, a, h => by
    have hi : i < pre.length := (List.getElem?_eq_some_iff.mp h.at_).1
    have e : pre ++ y :: rest = (pre ++ [y]) ++ rest := by simp
    rw [e, List.foldl_cons]
    by_cases c : f y < f a
    · have : stepF f a y = y := if_pos c
      rw [this]
      refine isFew_fold f rest (pre ++ [y]) pre.length y ⟨by simp, fun t ht => ?_, fun j t hj ht => ?_⟩
      · rcases List.mem_append.mp ht with ht | ht
        · exact Nat.le_of_lt (Nat.lt_of_lt_of_le c (h.le t ht))
        · rw [List.mem_singleton.mp ht]; exact Nat.le_refl _
      · rw [List.getElem?_append_left hj] at ht
        exact Nat.lt_of_lt_of_le c (h.le t (List.mem_of_getElem? ht))
    · have : stepF f a y = a := if_neg c
      rw [this]
      refine isFew_fold f rest (pre ++ [y]) i a ⟨by rw [List.getElem?_append_left hi]; exact h.at_, fun t ht => ?_, fun j t hj ht => ?_⟩
      · rcases List.mem_append.mp ht with ht | ht
        · exact h.le t ht
        · rw [List.mem_singleton.mp ht]; exact Nat.not_lt.mp c
      · rw [List.getElem?_append_left (Nat.lt_trans hj hi)] at ht
        exact h.first j t hj ht
theorem isFew_start (f : Web → Nat) (a : Web) (rest : List Web) : ∃ j, IsFew f (a :: rest) j (rest.foldl (stepF f) a) :=
  isFew_fold f rest [a] 0 a ⟨rfl, fun t ht => by rw [List.mem_singleton.mp ht]; exact Nat.le_refl _, fun j t hj => absurd hj (Nat.not_lt_zero _)⟩
/-- the couples of all trees -/
def commonOf (cs : List Edge) (ts : List Web) : List Edge := cs.filter fun p => ts.all fun t => decide (p.2 ∈ t.getD p.1 [])

/-! ### a group by itself -/
def ixOf (lot : List Nat) (v : Nat) : Nat := lot.idxOf v
def couplesOf (lot : List Nat) (ps : List Edge) : List Edge := (ps.filter fun e => decide (e.1 ∈ lot)).map fun e => (ixOf lot e.1, ixOf lot e.2)
theorem ixOf_lt {lot : List Nat} {v : Nat} (h : v ∈ lot) : ixOf lot v < lot.length := List.idxOf_lt_length_iff.mpr h
theorem ixOf_get {lot : List Nat} {v : Nat} (h : v ∈ lot) : lot[ixOf lot v]? = some v := by
  have := List.getElem_idxOf (ixOf_lt h)
  rw [List.getElem?_eq_getElem (ixOf_lt h)]
  exact congrArg some this
theorem ixOf_mono {lot : List Nat} (hs : lot.Pairwise (· < ·)) {u v : Nat} (hu : u ∈ lot) (hv : v ∈ lot) (h : u < v) : ixOf lot u < ixOf lot v := by
  have e1 := ixOf_get hu
  have e2 := ixOf_get hv
  rcases Nat.lt_trichotomy (ixOf lot u) (ixOf lot v) with q | q | q
  · exact q
  · rw [q, e2] at e1
    have := Option.some.inj e1
    omega
  · have l1 := ixOf_lt hu
    have l2 := ixOf_lt hv
    have := List.pairwise_iff_getElem.mp hs _ _ l2 l1 q
    rw [List.getElem?_eq_getElem l1] at e1
    rw [List.getElem?_eq_getElem l2] at e2
    have e1 := Option.some.inj e1
    have e2 := Option.some.inj e2
    omega
section
variable {n p : Nat} {ps : List Edge}
theorem edge_in (ok : OkE n ps) {e : Edge} (he : e ∈ ps) (h : e.1 ∈ groupOf n ps p) : e.2 ∈ groupOf n ps p := by
  rw [mem_groupOf] at *
  exact ⟨(ok e he).2, h.2.trans (cn_edge (a := e.1) (b := e.2) he)⟩
theorem edge_in' (ok : OkE n ps) {e : Edge} (he : e ∈ ps) (h : e.2 ∈ groupOf n ps p) : e.1 ∈ groupOf n ps p := by
  rw [mem_groupOf] at *
  exact ⟨Nat.lt_trans (ok e he).1 (ok e he).2, h.2.trans (cn_edge (a := e.1) (b := e.2) he).symm⟩
theorem couples_ok (ok : OkE n ps) : OkE (groupOf n ps p).length (couplesOf (groupOf n ps p) ps) := fun e he => by
  obtain ⟨x, hx, rfl⟩ := List.mem_map.mp he
  obtain ⟨h1, h2⟩ := List.mem_filter.mp hx
  have h2 := of_decide_eq_true h2
  have h3 := edge_in ok h1 h2
  exact ⟨ixOf_mono (groupOf_sorted ..) h2 h3 (ok x h1).1, ixOf_lt h3⟩
theorem couples_conn (ok : OkE n ps) (hp : p < n) : Conn (groupOf n ps p).length (couplesOf (groupOf n ps p) ps) := by
  have key : ∀ u v, cn ps u v → u ∈ groupOf n ps p → (v ∈ groupOf n ps p ∧ cn (couplesOf (groupOf n ps p) ps) (ixOf (groupOf n ps p) u) (ixOf (groupOf n ps p) v)) ∨ False := by
    intro u v h hu
    left
    have hS := cn_least (ps := ps) (S := fun u v => (u ∈ groupOf n ps p ↔ v ∈ groupOf n ps p) ∧ (u ∈ groupOf n ps p → cn (couplesOf (groupOf n ps p) ps) (ixOf (groupOf n ps p) u) (ixOf (groupOf n ps p) v)))
      (fun _ => ⟨Iff.rfl, fun _ => rfl⟩) (fun u v h => ⟨h.1.symm, fun q => (h.2 (h.1.mpr q)).symm⟩) (fun u v x h k => ⟨h.1.trans k.1, fun q => (h.2 q).trans (k.2 (h.1.mp q))⟩)
      (fun a b he => ⟨⟨fun q => edge_in ok he q, fun q => edge_in' ok he q⟩, fun q => cn_edge (List.mem_map.mpr ⟨(a, b), List.mem_filter.mpr ⟨he, decide_eq_true q⟩, rfl⟩)⟩) u v h
    exact ⟨hS.1.mp hu, hS.2 hu⟩
  have nd := nodup_of_lt (groupOf_sorted n ps p)
  have at_ : ∀ i, i < (groupOf n ps p).length → ∃ v, v ∈ groupOf n ps p ∧ ixOf (groupOf n ps p) v = i := fun i hi => by
    refine ⟨(groupOf n ps p)[i], List.getElem_mem hi, ?_⟩
    have hm := List.getElem_mem hi
    have e := ixOf_get hm
    have l := ixOf_lt hm
    rw [List.getElem?_eq_getElem l] at e
    exact (List.getElem_inj nd).mp (Option.some.inj e)
  intro i j hi hj
  obtain ⟨u, hu, rfl⟩ := at_ i hi
  obtain ⟨v, hv, rfl⟩ := at_ j hj
  have := (mem_groupOf.mp hu).2.symm.trans (mem_groupOf.mp hv).2
  exact ((key u v this hu).elim (fun x => x.2) False.elim)
theorem group_pos (hp : p < n) : 0 < (groupOf n ps p).length := List.length_pos_of_mem (mem_groupOf.mpr ⟨hp, cn_refl _ _⟩)
theorem group_le : (groupOf n ps p).length ≤ n := by
  have := List.length_filter_le (fun u => decide (cn ps p u)) (List.range n); rw [List.length_range] at this; exact this
end
end Tr

/-! How webs, rows, couples stand in memory. -/
namespace Tr
open PySem PySem.Spec PyProof.Rows L2

def vi (n : Nat) : V := .int (n : Int)
def dN (n : Nat) : PyData := .int (n : Int)
def dR (r : List Nat) : PyData := .tuple (r.map dN)
def dP (e : Edge) : PyData := .tuple [dN e.1, dN e.2]
def dW (w : Web) : PyData := .tuple (w.map dR)

/-- tuples and locked things stand -/
structure Tst (H H' : Hp) : Prop where
  tup : ∀ a xs, H a = some (.tup xs) → H' a = some (.tup xs)
  frz : ∀ a o u, H a = some (.frz o u) → H' a = some (.frz o u)
theorem Tst.refl (H : Hp) : Tst H H := ⟨fun _ _ h => h, fun _ _ _ h => h⟩
theorem Tst.trans {H H1 H2 : Hp} (a : Tst H H1) (b : Tst H1 H2) : Tst H H2 := ⟨fun c x h => b.tup c x (a.tup c x h), fun c o u h => b.frz c o u (a.frz c o u h)⟩
theorem Tst.of {H H' : Hp} (s : Same H H') : Tst H H' := ⟨fun a _ h => s a _ h, fun a _ _ h => s a _ h⟩
theorem same_new {H : Hp} {p : Addr} {o : HO} (h : H p = none) : Same H (upd H p o) := fun b x e => by
  rw [upd_ne (ne_of_none e h)]; exact e
theorem Tst.new {H : Hp} {p : Addr} {o : HO} (h : H p = none) : Tst H (upd H p o) := .of (same_new h)
def Chg : HO → Prop
  | .tup _ => False
  | .frz _ _ => False
  | _ => True
theorem Tst.mut {H : Hp} {p : Addr} {o u : HO} (h : H p = some u) (c : Chg u) : Tst H (upd H p o) :=
  ⟨fun a xs e => by rw [upd_ne (ne_of e h (fun z => by subst z; exact c))]; exact e, fun a ob v e => by rw [upd_ne (ne_of e h (fun z => by subst z; exact c))]; exact e⟩
theorem Tst.lst {H : Hp} {p : Addr} {o : HO} {xs : List V} (h : H p = some (.lst xs)) : Tst H (upd H p o) := .mut h trivial

section
variable {K : PySem.W.Frag} {H H' : Hp} {a : Addr} {v : V} {xs : List V}
theorem Tst.sqT (t : Tst H H') (h : SqT K H a xs) : SqT K H' a xs := by
  rcases h with (h | ⟨o, h⟩) | h
  · exact .inl (.inl (t.tup _ _ h))
  · exact .inl (.inr ⟨o, t.frz _ _ _ h⟩)
  · exact .inr h
/-- a tuple of such -/
def IsT (K : PySem.W.Frag) (H : Hp) (v : V) (xs : List V) : Prop := ∃ a, v = .ref a ∧ SqT K H a xs
/-- a row of people; a couple; a web -/
def TR (K : PySem.W.Frag) (H : Hp) (v : V) (r : List Nat) : Prop := IsT K H v (r.map vi)
def TP (K : PySem.W.Frag) (H : Hp) (v : V) (e : Edge) : Prop := IsT K H v [vi e.1, vi e.2]
def TW (K : PySem.W.Frag) (H : Hp) (v : V) (w : Web) : Prop := ∃ a vs, v = .ref a ∧ SqT K H a vs ∧ Paired (TR K H) vs w
theorem IsT.ts (t : Tst H H') (h : IsT K H v xs) : IsT K H' v xs := let ⟨a, e, s⟩ := h; ⟨a, e, t.sqT s⟩
theorem TR.ts {r : List Nat} (t : Tst H H') (h : TR K H v r) : TR K H' v r := IsT.ts t h
theorem TP.ts {e : Edge} (t : Tst H H') (h : TP K H v e) : TP K H' v e := IsT.ts t h
theorem TW.ts {w : Web} (t : Tst H H') (h : TW K H v w) : TW K H' v w := let ⟨a, vs, e, s, p⟩ := h; ⟨a, vs, e, t.sqT s, Paired.mapP p fun _ _ z => z.ts t⟩
theorem pair_ts {β : Type} {R R' : V → β → Prop} (t : ∀ v b, R v b → R' v b) {vs : List V} {bs : List β} (h : Paired R vs bs) : Paired R' vs bs := Paired.mapP h t
/-- a list of such -/
def IsL (K : PySem.W.Frag) (H : Hp) (v : V) {β : Type} (R : V → β → Prop) (bs : List β) : Prop := ∃ a vs, v = .ref a ∧ SqL K H a vs ∧ Paired R vs bs

/-! ### as data -/
theorem dpAll_ints : ∀ r : List Nat, DpAll K H (r.map vi) (r.map dN)
  | [] => .nil
  | n :: r => .cons (.int _) (dpAll_ints r)
theorem dpAll_of {β : Type} {R : V → β → Prop} {enc : β → PyData} (h : ∀ v b, R v b → Dp K H v (enc b)) : ∀ {vs : List V} {bs : List β}, Paired R vs bs → DpAll K H vs (bs.map enc)
  | _, _, .nil => .nil
  | _, _, .cons r t => .cons (h _ _ r) (dpAll_of h t)
theorem TR.dp {r : List Nat} (h : TR K H v r) : Dp K H v (dR r) := by
  obtain ⟨a, rfl, s⟩ := h
  exact .tup s (dpAll_ints r)
theorem TP.dp {e : Edge} (h : TP K H v e) : Dp K H v (dP e) := by
  obtain ⟨a, rfl, s⟩ := h
  exact .tup s (.cons (.int _) (.cons (.int _) .nil))
theorem TW.dp {w : Web} (h : TW K H v w) : Dp K H v (dW w) := by
  obtain ⟨a, vs, rfl, s, p⟩ := h
  exact .tup s (dpAll_of (enc := dR) (fun _ _ h => TR.dp h) p)
theorem IsL.dp {β : Type} {R : V → β → Prop} {enc : β → PyData} {bs : List β} (h : IsL K H v R bs) (hR : ∀ v b, R v b → Dp K H v (enc b)) : Dp K H v (.list (bs.map enc)) := by
  obtain ⟨a, vs, rfl, s, p⟩ := h
  exact .lst s (dpAll_of hR p)
end

/-! ### the shape of such data -/
theorem depth_dN (n : Nat) : (dN n).depth = 0 := by simp [dN, PyData.depth]
theorem depthAll_le {β : Type} {enc : β → PyData} {k : Nat} (h : ∀ b, (enc b).depth ≤ k) : ∀ bs : List β, PyData.depthAll (bs.map enc) ≤ k
  | [] => by simp [PyData.depthAll]
  | b :: bs => by
    have h1 := h b
    have h2 := depthAll_le h bs
    simp only [List.map_cons, PyData.depthAll]
    omega
theorem depth_dR (r : List Nat) : (dR r).depth ≤ 1 := by
  have := depthAll_le (enc := dN) (k := 0) (fun n => by rw [depth_dN]; exact Nat.le_refl _) r
  simp only [dR, PyData.depth]; omega
theorem depth_dW (w : Web) : (dW w).depth ≤ 2 := by
  have := depthAll_le (enc := dR) (k := 1) depth_dR w
  simp only [dW, PyData.depth]; omega
theorem depth_dP (e : Edge) : (dP e).depth ≤ 1 := by simp [dP, dN, PyData.depth, PyData.depthAll]
theorem lay_all {β : Type} {enc : β → PyData} (h : ∀ b, (enc b).canLay0 = true) : ∀ bs : List β, PyData.canLayAll0 (bs.map enc) = true
  | [] => by simp [PyData.canLayAll0]
  | b :: bs => by simp [PyData.canLayAll0, h b, lay_all h bs]
theorem lay_dN (n : Nat) : (dN n).canLay0 = true := by simp [dN, PyData.canLay0]
theorem lay_dR (r : List Nat) : (dR r).canLay0 = true := by simp [dR, PyData.canLay0, lay_all lay_dN r]
theorem lay_dW (w : Web) : (dW w).canLay0 = true := by simp [dW, PyData.canLay0, lay_all lay_dR w]
theorem lay_dP (e : Edge) : (dP e).canLay0 = true := by simp [dP, dN, PyData.canLay0, PyData.canLayAll0]
theorem shaped_of {d : PyData} (h : d.canLay0 = true) (k : d.depth ≤ 64) : SeqAt.shaped d = true := by
  show (d.canLay0 && decide (d.depth ≤ 64)) = true
  rw [Bool.and_eq_true]
  exact ⟨h, decide_eq_true k⟩
theorem shaped_list {β : Type} {enc : β → PyData} {k : Nat} (h : ∀ b, (enc b).canLay0 = true) (hk : ∀ b, (enc b).depth ≤ k) (h64 : k ≤ 63) (bs : List β) : SeqAt.shaped (.list (bs.map enc)) = true := by
  have := depthAll_le hk bs
  exact shaped_of (by simp [PyData.canLay0, lay_all h bs]) (by simp only [PyData.depth]; omega)
/-! ### equality -/
theorem eqv_dN (a b : Nat) : PyData.eqv (dN a) (dN b) = decide (a = b) := by
  simp only [dN, PyData.eqv]
  rw [Bool.eq_iff_iff, beq_iff_eq, decide_eq_true_eq]; omega
theorem eqvAll_of {β : Type} [DecidableEq β] {enc : β → PyData} (h : ∀ a b, PyData.eqv (enc a) (enc b) = decide (a = b)) : ∀ xs ys : List β, PyData.eqvAll (xs.map enc) (ys.map enc) = decide (xs = ys)
  | [], [] => by simp [PyData.eqvAll]
  | [], _ :: _ => by simp [PyData.eqvAll]
  | _ :: _, [] => by simp [PyData.eqvAll]
  | x :: xs, y :: ys => by
    rw [List.map_cons, List.map_cons, PyData.eqvAll, h, eqvAll_of h xs ys, ← Bool.decide_and]
    exact decide_eq_decide.mpr (by rw [List.cons.injEq])
theorem eqv_dR (a b : List Nat) : PyData.eqv (dR a) (dR b) = decide (a = b) := by simp only [dR, PyData.eqv]; exact eqvAll_of eqv_dN a b
theorem eqv_dW (a b : Web) : PyData.eqv (dW a) (dW b) = decide (a = b) := by simp only [dW, PyData.eqv]; exact eqvAll_of eqv_dR a b
theorem eqv_dNs (a b : List Nat) : PyData.eqv (.list (a.map dN)) (.list (b.map dN)) = decide (a = b) := by simp only [PyData.eqv]; exact eqvAll_of eqv_dN a b
/-! ### order -/
open PySem.W in
theorem alike_dN (a b : Nat) : alike (dN a) (dN b) = true := by simp [dN, alike]
open PySem.W in
theorem alikeAll_of {β : Type} {enc : β → PyData} (h : ∀ a b, alike (enc a) (enc b) = true) : ∀ xs ys : List β, alikeAll (xs.map enc) (ys.map enc) = true
  | [], _ => by simp [alikeAll]
  | _ :: _, [] => by simp [alikeAll]
  | x :: xs, y :: ys => by rw [List.map_cons, List.map_cons, alikeAll, h x y, alikeAll_of h xs ys]; rfl
open PySem.W in
theorem alike_dR (a b : List Nat) : alike (dR a) (dR b) = true := by simp only [dR, alike]; exact alikeAll_of alike_dN a b
open PySem.W in
theorem alike_dW (a b : Web) : alike (dW a) (dW b) = true := by simp only [dW, alike]; exact alikeAll_of alike_dR a b
open PySem.W in
theorem lt_of {β : Type} [DecidableEq β] {enc : β → PyData} {lt : β → β → Bool} (ha : ∀ a b, alike (enc a) (enc b) = true) (he : ∀ a b, PyData.eqv (enc a) (enc b) = decide (a = b)) (hl : ∀ a b, dataLt (enc a) (enc b) = lt a b) :
    ∀ xs ys : List β, PyProof.Rows.lexLt itemOrd (keyToksAll (xs.map enc)) (keyToksAll (ys.map enc)) = ltL lt xs ys
  | [], [] => lex_irrefl _
  | [], y :: ys => by
    rw [List.map_nil, List.map_cons, toks_all_cons]
    simp only [keyToksAll]
    rw [lex_diff (O := itemOrd) (by simp)]
    rfl
  | x :: xs, [] => by
    rw [List.map_nil, List.map_cons, toks_all_cons]
    simp only [keyToksAll]
    rw [lex_diff (O := itemOrd) (by simp)]
    rfl
  | x :: xs, y :: ys => by
    rw [List.map_cons, List.map_cons, dataLt_cons (ha x y), he, lt_of ha he hl xs ys, hl]
    rw [show ltL lt (x :: xs) (y :: ys) = if x = y then ltL lt xs ys else lt x y from rfl]
    by_cases e : x = y
    · rw [if_pos (decide_eq_true e), if_pos e]
    · rw [if_neg (by rw [decide_eq_false e]; exact Bool.false_ne_true), if_neg e]
open PySem.W in
theorem lt_dN (a b : Nat) : dataLt (dN a) (dN b) = ltN a b := by
  unfold dN ltN
  rw [dataLt_int]
  exact decide_eq_decide.mpr (by omega)
open PySem.W in
theorem lt_dR (a b : List Nat) : dataLt (dR a) (dR b) = ltR a b := by
  unfold dR; rw [dataLt_tuple]; exact lt_of alike_dN eqv_dN lt_dN a b
open PySem.W in
theorem lt_dW (a b : Web) : dataLt (dW a) (dW b) = ltW a b := by
  unfold dW; rw [dataLt_tuple]; exact lt_of alike_dR eqv_dR lt_dR a b
open PySem.W in
theorem le_dW : dataLe false dW = leW := by
  funext a b
  show (!dataLt (dW b) (dW a)) = _
  rw [lt_dW]; rfl
open PySem.W in
theorem le_dN : dataLe false dN = fun a b => decide (a ≤ b) := by
  funext a b
  show (!dataLt (dN b) (dN a)) = _
  rw [lt_dN]; unfold ltN
  by_cases h : b < a
  · simp [h]
  · simp [h, Nat.not_lt.mp h]
open PySem.W in
theorem leW_total : TotalLe leW := by rw [← le_dW]; exact sortLe_total _ _ _
open PySem.W in
theorem sort_perm {l m : List Web} (h : l.Perm m) : l.mergeSort leW = m.mergeSort leW :=
  List.Perm.eq_of_pairwise (le := fun a b => leW a b = true) (fun a b _ _ h1 h2 => leW_anti a b h1 h2) (sort_pairwise leW_total l) (sort_pairwise leW_total m)
    ((List.mergeSort_perm l leW).trans (h.trans (List.mergeSort_perm m leW).symm))
theorem treesOf_eq {n : Nat} {cs : List Edge} {l : List Web} (h : l.Perm (cands n cs)) : l.mergeSort leW = treesOf n cs := sort_perm h
theorem mem_treesOf {n : Nat} {cs : List Edge} {t : Web} : t ∈ treesOf n cs ↔ t ∈ cands n cs := (List.mergeSort_perm _ _).mem_iff
theorem treesOf_some {n : Nat} {cs : List Edge} (h : cands n cs ≠ []) : treesOf n cs ≠ [] := fun e => by
  have := (List.mergeSort_perm (cands n cs) leW).length_eq
  unfold treesOf at e
  rw [e] at this
  exact h (List.length_eq_zero_iff.mp this.symm)
open PySem.W in
theorem treesOf_sorted (n : Nat) (cs : List Edge) : (treesOf n cs).Pairwise (fun a b => leW a b = true) := sort_pairwise leW_total _
/-- sorting people that are all unlike -/
theorem sort_nat {l m : List Nat} (hl : l.Nodup) (hm : m.Pairwise (· < ·)) (h : ∀ a, a ∈ l ↔ a ∈ m) : l.mergeSort (fun a b => decide (a ≤ b)) = m := by
  refine List.Perm.eq_of_pairwise (le := (· ≤ ·)) (fun a b _ _ h1 h2 => Nat.le_antisymm h1 h2) ?_ (hm.imp Nat.le_of_lt) ((List.mergeSort_perm _ _).trans ((List.perm_ext_iff_of_nodup hl (nodup_of_lt hm)).mpr h))
  have := List.pairwise_mergeSort (le := fun a b : Nat => decide (a ≤ b)) (fun a b c h1 h2 => decide_eq_true (Nat.le_trans (of_decide_eq_true h1) (of_decide_eq_true h2))) (fun a b => by
    rw [Bool.or_eq_true, decide_eq_true_eq, decide_eq_true_eq]; omega) l
  exact this.imp fun h => of_decide_eq_true h
end Tr

/-! Rules for data: sorted, min, sets of ints, enumerate of a tuple. -/
namespace Tr
open PySem PySem.Spec PyProof.Rows L2
open PySem.W (EachIs)
section
variable {X : Cx}
theorem each_of {β : Type} {R : V → β → Prop} {zs : List V} : ∀ {xs : List V} {us : List Value} {bs : List β}, Vals xs us → Paired R xs bs → (∀ x ∈ xs, x ∈ zs) → EachIs (fun u b => ∃ v, RelV v u ∧ (v ∈ zs ∧ R v b)) us bs
  | _, _, _, .nil, .nil, _ => .nil
  | _, _, _, .cons r t, .cons q k, h => .cons ⟨_, r, h _ List.mem_cons_self, q⟩ (each_of t k fun x hx => h x (List.mem_cons_of_mem _ hx))
theorem each_pull {β : Type} {R : V → β → Prop} : ∀ {us : List Value} {bs : List β}, EachIs (fun u b => ∃ v, RelV v u ∧ R v b) us bs → ∃ ys, Vals ys us ∧ Paired R ys bs
  | _, _, .nil => ⟨[], .nil, .nil⟩
  | _, _, .cons ⟨v, r, q⟩ t => by
    obtain ⟨ys, h1, h2⟩ := each_pull t
    exact ⟨v :: ys, .cons r h1, .cons q h2⟩
/-- sorted(l), l a list of data -/
def rSortD (K : PySem.W.Frag) {β : Type} (enc : β → PyData) : List V → Hp → VK → Prop := fun vs H Q => ∃ (a : Addr) (xs : List V) (bs : List β) (R : V → β → Prop), vs = [V.ref a] ∧ SqL K H a xs ∧ Paired R xs bs ∧ (∀ v b, R v b → Dp K H v (enc b)) ∧
  PySem.W.AllAlike (bs.map enc) ∧ PySem.W.Sortable (bs.map enc) ∧ (∀ b ∈ bs, (enc b).depth ≤ 8) ∧
  ∀ (p : Addr) (ys : List V), H p = none → Paired (fun v b => v ∈ xs ∧ R v b) ys (bs.mergeSort (PySem.W.dataLe false enc)) → Q (.ref p) (upd H p (.lst ys))
theorem cr_sortD {β : Type} {enc : β → PyData} (hu : X.A.units + 64 < cLine) : CallR X (.builtin "sorted") (rSortD X.K enc) := by
  intro pins s σ H vs us Q I r h
  obtain ⟨a, xs, bs, R, rfl, hs, hp, hR, hal, hk, hd, q⟩ := h
  obtain ⟨its, rv, hl, hz⟩ := I.list hs
  rw [Vals.ref1 r]
  have e : EachIs (fun u b => ∃ v, RelV v u ∧ (v ∈ xs ∧ R v b)) its bs := each_of rv hp fun _ h => h
  have er : EachIs (fun u b => ∃ as, Reads s.heap u (enc b) as) its bs := e.mono fun u b ⟨v, rv, _, hv⟩ => Dp.reads I _ v u (hR v b hv) rv
  have hb : bs.length = xs.length := (Paired.length hp).symm
  refine PySem.W.sorted_data hl.isList e er hal hk (by rw [hb]; exact hz) (fun b hb => by have := hd b hb; omega) fun out ho eo => ?_
  obtain ⟨ys, rys, pys⟩ := each_pull eo
  obtain ⟨ep, hat⟩ := PyProof.Rows.sortedAll_at s.heap its (List.toArray out)
  have hlen : ys.length ≤ sizeLine := by rw [rys.length, ho, hb]; exact hz
  exact ⟨.ref _, upd H (s.heap.objs.size + 1) (.lst ys), I.laid (t' := s.toks) (fun _ _ => PyProof.Rows.sortedAll_old) (Nat.le_succ _) ⟨hlen, out, ep, rys, hat⟩, rfl, q _ ys (I.hok.fresh (Nat.le_succ _)) pys⟩
/-- min(l), l a list of data -/
def rMinD (K : PySem.W.Frag) {β : Type} (enc : β → PyData) : List V → Hp → VK → Prop := fun vs H Q => ∃ (a : Addr) (xs : List V) (b : β) (bs : List β), vs = [V.ref a] ∧ SqL K H a xs ∧ Paired (fun v b => Dp K H v (enc b)) xs (b :: bs) ∧
  PySem.W.AlikeAll ((b :: bs).map enc) ∧ (∀ c, (enc c).canLay0 = true) ∧ (∀ c, (enc c).depth ≤ 8) ∧
  ∀ (i : Nat) (v : V) (c : β), xs[i]? = some v → (b :: bs)[i]? = some c → enc c = PySem.W.minD (enc b) (bs.map enc) → Q v H
theorem cr_minD {β : Type} {enc : β → PyData} (hc : X.calm = true) (hu : X.A.units + 64 < cLine) : CallR X (.builtin "min") (rMinD X.K enc) := by
  intro pins s σ H vs us Q I r h
  obtain ⟨a, xs, b, bs, rfl, hs, hp, hal, hlay, hd, q⟩ := h
  obtain ⟨its, rv, hl, hz⟩ := I.list hs
  rw [Vals.ref1 r]
  have all := dpAll_of (K := X.K) (H := H) (enc := enc) (fun _ _ z => z) hp
  obtain ⟨as, hr⟩ := Dp.readsAll I _ _ its all rv
  have dep := depthAll_le (enc := enc) (k := 8) hd (b :: bs)
  rw [List.map_cons] at hr dep hal
  refine PySem.W.min_list_data (I.ok.hd hc) hl.isList (by simpa using hr) hal (by omega) fun i u h' tk cs hi hm hk => ?_
  have hi : its[i]? = some u := by simpa using hi
  have hlt : i < its.length := (List.getElem?_eq_some_iff.mp hi).1
  have hltx : i < xs.length := by rw [rv.length]; exact hlt
  have hx : xs[i]? = some xs[i] := List.getElem?_eq_getElem hltx
  obtain ⟨u', hu', ru⟩ := rv.get hx
  rw [hi] at hu'
  cases hu'
  obtain ⟨c, hc', hdp⟩ := L2.paired_get hp hx
  obtain ⟨ds, r2⟩ := Dp.reads I _ _ u hdp ru
  have e := SeqAt.Reads.unique _ _ u _ _ (hlay c) (PyProof.Rows.Reads.keeps hk r2) hm
  exact ⟨xs[i], H, I.kept hk, ru, q i _ c hx hc' e⟩
end
end Tr

/-! Rules: enumerate of a tuple; t * 1; t.index of a tuple whose own object is known. -/
namespace Tr
open PySem PySem.Spec PyProof.Rows L2

/-! ### enumerate(t) -/
/-- its making: v's own iterator o stands where B says -/
theorem enum_new {v : Value} {o : Obj} {Pd : Heap → Prop} (B : Begins v o Pd) :
    Meets (Builtin.«enumerate.__new__» ⟨[.type "enumerate", v], []⟩) (fun _ R s => Pd s.heap ∧
      R (.ok (.ret (.ref (s.heap.push o).objs.size))) { s with heap := (s.heap.push o).push { cls := .type "enumerate", data := .fields #[.none, .bool false, .ref s.heap.objs.size, rawInt 0, .none, .none] } }) :=
  .of_wp fun prog w A R s hyp => by
    obtain ⟨hp, gg, dd, tk, os⟩ := s
    obtain ⟨hB, hyp⟩ := hyp
    have isSub := sub_enumerate
    have step : ∀ {A' : Around} {E : Value → Shared → Prop} {Q : Value → Shared → Prop}, Q (.ref hp.objs.size) ⟨hp.push o, gg, dd, tk, os⟩ → wpAny (model prog w) A' (pyIter v) Q E ⟨hp, gg, dd, tk, os⟩ := fun z => B.iter prog w _ _ ⟨hp, gg, dd, tk, os⟩ _ hB z
    wp_walk using step
    refine wpAny_stack_any fun fr => wpAny_pure ?_
    split
    · rename_i c _ _ _ _ _
      cases (c == Value.type "enumerate") <;> (wp_walk using step; exact ⟨_, rfl, hyp⟩)
    · wp_walk using step
      exact ⟨_, rfl, hyp⟩
section
variable {prog : Program} {w : World} {A : Around} {E : Value → Shared → Prop} {s : Shared}
theorem call_enum {v : Value} {o : Obj} {Pd : Heap → Prop} {Q : Value → Shared → Prop} (B : Begins v o Pd) (hB : Pd s.heap)
    (k : ∀ h2, IsEnum h2 (s.heap.objs.size + 1) s.heap.objs.size 0 .none → h2.get? s.heap.objs.size = some o → (∀ b ob, s.heap.get? b = some ob → h2.get? b = some ob) → Q (.ref (s.heap.objs.size + 1)) { s with heap := h2 }) :
    wpAny (model prog w) A (call (.type "enumerate") [v]) Q E s := by
  refine callType_new PySem.F.called_enumerate (by decide) (PySem.F.typeCall_enumerate_1 _) (PySem.F.newCall_enumerate_1 _) (fun ob => PySem.F.args_object_init_2 ob _) PySem.F.entry_enumerate_new (enum_new B) ⟨hB, ?_⟩
  have sz : (s.heap.push o).objs.size = s.heap.objs.size + 1 := Heap.size_push ..
  have at1 := Heap.get?_push_size (s.heap.push o) (o := { cls := .type "enumerate", data := .fields #[.none, .bool false, .ref s.heap.objs.size, rawInt 0, .none, .none] }) rfl
  rw [sz] at at1
  show _ ∧ _
  rw [sz]
  exact ⟨⟨_, at1, rfl⟩, k _ at1 (Heap.get?_push_of_some _ (Heap.get?_push_size _ B.free)) fun b ob q => Heap.get?_push_of_some _ (Heap.get?_push_of_some _ q)⟩
end
/-- the tuple at a, each item in a new pair -/
def IteT (K : PySem.W.Frag) (a : Addr) (xs : List V) : It :=
  ⟨fun i H => SqT K H a xs ∧ i < xs.length, fun i H v H' => ∃ T x, v = .ref T ∧ H T = none ∧ H' = upd H T (.tup [.int (i : Nat), x]) ∧ xs[i]? = some x, fun i H => SqT K H a xs ∧ xs.length = i⟩
theorem turn_enumT {P : Program} {w : World} {K : PySem.W.Frag} {elts : List Expr} {kk : Nat} {tpos : Pos} (a e it : Addr) (xs : List V) (its : List Value) (rv : Vals xs its) (hai : a ≠ it) (hei : e ≠ it) (hea : e ≠ a) :
    Turn P w K (.Tuple elts kk tpos) (IteT K a xs) [e, it] e (fun i h => (∃ old, IsEnum h e it ((i : Nat) : Int) old) ∧ h.IsTupleIter it a i) where
  mem := by simp
  obj := fun i h st b hb => by
    obtain ⟨⟨old, he⟩, ⟨o, ho, _, hd⟩⟩ := st
    rcases List.mem_cons.mp hb with z | z
    · rw [z]; exact ⟨_, he, fun v q => nomatch q⟩
    · rw [List.mem_singleton.mp z]; exact ⟨o, ho, fun v q => by rw [hd] at q; cases q⟩
  keep := fun i h h' ⟨⟨old, he⟩, hi⟩ k => ⟨⟨old, k e (by simp) _ he⟩, hi.at fun o q => k it (by simp) o q⟩
  item := by
    intro X hP hw hK hc i pins s σ H E I hf st hg
    subst hP hw hK
    obtain ⟨⟨old, he⟩, hit⟩ := st
    obtain ⟨hq, hlt⟩ := hg
    obtain ⟨its2, rv2, tpl, _⟩ := I.tuple hq
    have hlen : its2.toArray.size = xs.length := by rw [List.size_toArray, rv2.length]
    have hel : e < s.heap.objs.size := Heap.lt_size he
    have hil : it < s.heap.objs.size := by obtain ⟨_, q, _⟩ := hit; exact Heap.lt_size q
    have D := Draws.tuple (prog := X.prog) (w := X.w) (A := X.A.in1) (I.ok.hd hc) it a hai its2.toArray
    refine wpAny_pyNext_enum_itemC D he ⟨hit, tpl⟩ (by rw [hlen]; exact hlt) hei (by simp [hei, hea]) fun u h1 tk hu ho hst hT hsz hk => ?_
    refine ⟨_, rfl, wpAny_letOwnedTupleGo_enum (s := { s with heap := h1, toks := tk + 1 }) ho fun h2 he2 sb => ?_⟩
    have hx : xs[i]? = some xs[i] := List.getElem?_eq_getElem hlt
    obtain ⟨u2, hu2, ru⟩ := rv2.get hx
    have eu : u2 = u := by
      have : its2[i]? = some u := by simpa using hu
      rw [hu2] at this
      exact Option.some.inj this
    subst eu
    have hT2 : h2.get? s.heap.objs.size = some { cls := .type "tuple", data := .seq #[.int i tk, u2] } := (sb.2 _ (Nat.ne_of_gt hel)).trans hT
    have fresh := I.hok.fresh (Nat.le_refl s.heap.objs.size)
    have I1 : Inv X pins σ (upd H s.heap.objs.size (.tup [.int (i : Nat), xs[i]])) { s with heap := h2, toks := tk + 1 } :=
      I.turnedNew (ch := [e, it]) (fun b ob hb q => (sb.2 b (fun z => hb (by simp [z]))).trans (hk b ob (fun z => hb (by simp [z])) (fun z => hb (by simp [z])) q)) hf (Nat.le_refl _)
        ⟨by show 2 ≤ sizeLine; decide, [.int i tk, u2], .cons ⟨_, rfl⟩ (.cons ru .nil), ⟨_, hT2, rfl, _, rfl⟩⟩
    refine ⟨.ref s.heap.objs.size, _, I1, rfl, ⟨_, _, rfl, fresh, rfl, hx⟩, ⟨⟨u2, ?_⟩, hst.1.at fun o q => (sb.2 it (Ne.symm hei)).trans q⟩, fun b hb => ?_⟩
    · have e1 : ((i + 1 : Nat) : Int) = (i : Int) + 1 := by omega
      rw [e1]; exact he2
    · have lt : b < s.heap.objs.size := by
        rcases List.mem_cons.mp hb with z | z
        · rw [z]; exact hel
        · rw [List.mem_singleton.mp z]; exact hil
      rw [upd_ne (Nat.ne_of_lt lt)]
      exact (hf b hb).1
  done := by
    intro X hP hw hK hc i pins s σ H E I hf st hg
    subst hP hw hK
    obtain ⟨⟨old, he⟩, hit⟩ := st
    obtain ⟨hq, rfl⟩ := hg
    obtain ⟨its2, rv2, tpl, _⟩ := I.tuple hq
    obtain ⟨f0, f1, f2, f3, f4, f5⟩ := hf it (by simp)
    have hlen : its2.toArray.size = xs.length := by rw [List.size_toArray, rv2.length]
    have D := Draws.tuple (prog := X.prog) (w := X.w) (A := X.A.in1) (I.ok.hd hc) it a hai its2.toArray
    rw [← hlen] at he hit
    exact wpAny_pyNext_enum_endD D he ⟨hit, tpl⟩ fun h' eb => ⟨rfl, I.turned (t' := s.toks) (fun b o hb q => eb b o hb q) f0 f1 f3 f4 f5⟩
  self := fun A i s Q E ⟨⟨_, he⟩, _⟩ h => wpAny_pyIter_enum he h
def iEnumT (K : PySem.W.Frag) (ta : TA) : TI := fun σ H R => ta σ H fun vs H1 => ∃ a xs, vs = [.ref a] ∧ SqT K H1 a xs ∧ R (IteT K a xs) H1
theorem pi_enumT {X : Cx} {e : Expr} {ta : TA} {p pos tpos : Pos} {elts : List Expr} {kk : Nat} (hg : Gl X "enumerate") (hm : X.mg "enumerate" = none) (ha : PA X [e] ta) (one : starEach [e] X.env = [(false, eval e X.env)] := by rfl) :
    PI X (.Tuple elts kk tpos) (.Call (.Name "enumerate" p) [e] [] pos) (iEnumT X.K ta) := by
  refine ⟨fun pins s σ H R I h => ?_⟩
  refine Call_ (ld_blt I hg hm boot_enumerate (PyProof.Rows.callWith_type1 (thn (ha.run pos pins s σ H _ I h) fun us s1 ⟨vs, H1, I1, r1, q1⟩ => ?_) one rfl))
  obtain ⟨a, xs, rfl, hq, q⟩ := q1
  obtain ⟨u, rfl, ru⟩ := vals1 r1
  cases ru
  obtain ⟨its, rv, tpl, _⟩ := I1.tuple hq
  have hal : a < s1.heap.objs.size := by obtain ⟨o, ho, _⟩ := tpl; exact Heap.lt_size ho
  refine call_enum (begins_tuple a its.toArray) tpl fun h2 he hit hk => wpAny_pyIter_enum he ?_
  have I2 : Inv X pins σ H1 { s1 with heap := h2 } := I1.kept (t' := s1.toks) hk
  refine ⟨s1.heap.objs.size + 1, [s1.heap.objs.size + 1, s1.heap.objs.size], _, _, H1, rfl, I2, turn_enumT a (s1.heap.objs.size + 1) s1.heap.objs.size xs its rv (Nat.ne_of_lt hal) (Nat.succ_ne_self _) (Nat.ne_of_gt (Nat.lt_succ_of_lt hal)), ⟨⟨.none, he⟩, ⟨_, hit, rfl, rfl⟩⟩, fun b hb => ?_, q⟩
  have le : s1.heap.objs.size ≤ b := by
    rcases List.mem_cons.mp hb with z | z
    · rw [z]; exact Nat.le_succ _
    · rw [List.mem_singleton.mp z]; exact Nat.le_refl _
  exact I1.fpOk le (I1.hok.fresh le)
/-- the loop over it -/
theorem for_enumT {K : PySem.W.Frag} {a : Addr} {xs : List V} {g : TG} {tb : TS} {D : Ends} {σ : L2.St} {H : Hp} (Pv : Nat → L2.St → Hp → Prop) (h0 : Pv 0 σ H) (hl : ∀ i σ H, i ≤ xs.length → Pv i σ H → SqT K H a xs)
    (turn : ∀ i x T σ H, xs[i]? = some x → Pv i σ H → H T = none → g (.ref T) σ (upd H T (.tup [.int (i : Nat), x])) fun σ2 H2 => tb { D with nx := Pv (i + 1), ct := Pv (i + 1), bk := D.nx } σ2 H2) (hd : ∀ σ H, Pv xs.length σ H → D.nx σ H) :
    ∃ W : Nat → Nat → L2.St → Hp → Prop, (∃ m, W 0 m σ H) ∧ ∀ i m σ H, W i m σ H →
      ((IteT K a xs).stop i H ∧ D.nx σ H) ∨ ((IteT K a xs).go i H ∧ ∃ N : L2.St → Hp → Prop, (∀ σ' H', N σ' H' → ∃ m', m' < m ∧ W (i + 1) m' σ' H') ∧ ∀ x H', (IteT K a xs).yld i H x H' → g x σ H' fun σ2 H2 => tb { D with nx := N, ct := N, bk := D.nx } σ2 H2) := by
  refine ⟨fun i m σ H => m = xs.length - i ∧ i ≤ xs.length ∧ Pv i σ H, ⟨_, rfl, Nat.zero_le _, h0⟩, fun i m σ H ⟨em, hi, pv⟩ => ?_⟩
  subst em
  by_cases c : i < xs.length
  · refine .inr ⟨⟨hl i σ H hi pv, c⟩, Pv (i + 1), fun σ' H' z => ⟨xs.length - (i + 1), by omega, rfl, c, z⟩, fun x H' y => ?_⟩
    obtain ⟨T, z, rfl, hT, rfl, hx⟩ := y
    exact turn i z T σ H hx pv hT
  · have : i = xs.length := by omega
    subst this
    exact .inl ⟨⟨hl _ σ H (Nat.le_refl _) pv, rfl⟩, hd σ H pv⟩
end Tr

/-! Dicts whose keys are tuples of any depth. -/
namespace Tr
open PySem PySem.Spec PyProof.Rows L2

/-- a kind of key: how it is told, how it stands -/
structure KeyK (K : PySem.W.Frag) (β : Type) [DecidableEq β] where
  key : β → NestedKey
  R : Hp → V → β → Prop
  inj : ∀ a b, key a = key b → a = b
  dep : ∀ a, (key a).depth ≤ 8
  ts : ∀ {H H' : Hp} {v : V} {b : β}, Tst H H' → R H v b → R H' v b
  is : ∀ {X : Cx} {pins : List (Addr × Obj)} {σ : L2.St} {H : Hp} {s : Shared} {b : Addr} {k : β}, X.K = K → Inv X pins σ H s → R H (.ref b) k → NestedIs s.heap (key k) (.ref b)
/-- the dict's own object -/
def dX (a : Addr) (es : Array DictEntry) (ep : Nat) : HO := .ext fun h => h.DictRaw a es ep
theorem dX_ok {P : Program} {w : World} {H : Hp} {h : Heap} {a : Addr} {es : Array DictEntry} {ep : Nat} (r : h.DictRaw a es ep) : ObjOk P w H h a (dX a es ep) :=
  ⟨r, let ⟨o, ho, _⟩ := r; ⟨o, ho⟩, fun _ _ p k => Heap.DictRaw.at p k⟩
theorem inv_raw {X : Cx} {pins : List (Addr × Obj)} {σ : L2.St} {H : Hp} {s : Shared} {a : Addr} {es : Array DictEntry} {ep : Nat} (I : Inv X pins σ H s) (h : H a = some (dX a es ep)) : s.heap.DictRaw a es ep := (I.hok a _ h).1
section
variable {K : PySem.W.Frag} {β : Type} [DecidableEq β]
def EntX (kk : KeyK K β) (H : Hp) (p : β × V) (x : NestedKey × Addr × Value) : Prop := x.1 = kk.key p.1 ∧ kk.R H (.ref x.2.1) p.1 ∧ RelV p.2 x.2.2
/-- at a stands a dict with the entries kvs -/
def DX (P : Program) (w : World) (kk : KeyK K β) (H : Hp) (a : Addr) (kvs : List (β × V)) : Prop :=
  ∃ es ep, H a = some (dX a es ep) ∧ (a == sysModules) = false ∧ kvs.length ≤ sizeLine ∧ ∃ xs : List (NestedKey × Addr × Value), es.toList = xs.map (entryOfKey (nestedKind P w)) ∧ (xs.map (·.1)).Nodup ∧ Paired (EntX kk H) kvs xs
variable {P : Program} {w : World} {kk : KeyK K β} {H H' : Hp} {a : Addr} {kvs : List (β × V)}
theorem DX.at_ (h : DX P w kk H a kvs) : ∃ es ep, H a = some (dX a es ep) := let ⟨es, ep, e, _⟩ := h; ⟨es, ep, e⟩
theorem DX.keep (h : DX P w kk H a kvs) (t : Tst H H') (ha : H' a = H a) : DX P w kk H' a kvs := by
  obtain ⟨es, ep, e, l, z, xs, h1, h2, h3⟩ := h
  exact ⟨es, ep, by rw [ha]; exact e, l, z, xs, h1, h2, Paired.mapP h3 fun _ _ ⟨q1, q2, q3⟩ => ⟨q1, kk.ts t q2, q3⟩⟩
theorem DX.same (h : DX P w kk H a kvs) (t : Same H H') : DX P w kk H' a kvs := by
  obtain ⟨es, ep, e⟩ := h.at_
  exact h.keep (.of t) (by rw [e]; exact t _ _ e)
theorem ents_some {k : β} : ∀ {kvs : List (β × V)} {xs : List (NestedKey × Addr × Value)}, Paired (EntX kk H) kvs xs → ((atKey xs (kk.key k)).isSome = true ↔ k ∈ kvs.map (·.1))
  | _, _, .nil => by simp [atKey]
  | p :: kvs, x :: xs, .cons r t => by
    have ih := ents_some (k := k) t
    obtain ⟨e, _, _⟩ := r
    by_cases h : x.1 = kk.key k
    · have hk : p.1 = k := kk.inj _ _ (e.symm.trans h)
      simp [atKey, h, hk]
    · have hk : ¬ k = p.1 := fun z => h (by rw [e, z])
      have e2 : atKey (x :: xs) (kk.key k) = atKey xs (kk.key k) := by simp [atKey, h]
      rw [e2, ih]
      simp [hk]
theorem ents_put {k : β} {v : V} {b : Addr} {u : Value} {xs : List (NestedKey × Addr × Value)} (h : Paired (EntX kk H) kvs xs) (hb : kk.R H (.ref b) k) (hv : RelV v u) : Paired (EntX kk H) (put kvs k v) (storedH xs (kk.key k) b u) := by
  unfold put storedH
  by_cases c : k ∈ kvs.map (·.1)
  · rw [if_pos c, if_pos ((ents_some h).mpr c)]
    clear c
    induction h with
    | nil => exact .nil
    | @cons p x kvs xs r t ih =>
      rw [List.map_cons, List.map_cons]
      refine .cons ?_ ih
      obtain ⟨e, q, rv⟩ := r
      unfold putAt
      by_cases hk : p.1 = k
      · rw [if_pos hk, if_pos (by rw [e, hk])]
        exact ⟨by rw [e, hk], by rw [← hk]; exact q, hv⟩
      · rw [if_neg hk, if_neg (fun z => hk (kk.inj _ _ (e.symm.trans z)))]
        exact ⟨e, q, rv⟩
  · rw [if_neg c, if_neg (fun z => c ((ents_some h).mp z))]
    exact Paired.snoc h ⟨rfl, hb, hv⟩
theorem ents_get : ∀ {kvs : List (β × V)} {xs : List (NestedKey × Addr × Value)}, Paired (EntX kk H) kvs xs → ∀ {i : Nat} {x : NestedKey × Addr × Value}, xs[i]? = some x → ∃ p, kvs[i]? = some p ∧ EntX kk H p x
  | _, _, .nil, _, _, e => by simp at e
  | _, _, .cons r t, 0, _, e => by cases e; exact ⟨_, rfl, r⟩
  | _, _, .cons r t, i + 1, _, e => ents_get t (i := i) e

section
variable {X : Cx} {kk : KeyK X.K β} {pins : List (Addr × Obj)} {σ : L2.St} {H : Hp} {s : Shared} {a : Addr} {kvs : List (β × V)} {A : Around} {E : Value → Shared → Prop}
theorem dictOfH_of (I : Inv X pins σ H s) {es : Array DictEntry} {ep : Nat} {xs : List (NestedKey × Addr × Value)} (e : H a = some (dX a es ep)) (h1 : es.toList = xs.map (entryOfKey (nestedKind X.prog X.w))) (h2 : (xs.map (·.1)).Nodup) (h3 : Paired (EntX kk H) kvs xs) :
    s.heap.DictOfH (nestedKind X.prog X.w) a xs := by
  obtain ⟨o, ho, hx, hd⟩ := inv_raw I e
  refine ⟨o, es, ep, ho, hx, hd, h1, fun x hm => ?_, h2⟩
  obtain ⟨i, hi⟩ := List.mem_iff_getElem?.mp hm
  obtain ⟨p, _, e1, q, _⟩ := ents_get h3 hi
  rw [e1]
  exact ⟨kk.is rfl I q, kk.dep _⟩
/-- d[k] = v -/
theorem setX {k : β} {b : Addr} {v : V} {u : Value} {Q : Unit → Shared → Prop} (hu : A.units + 10 < cLine) (I : Inv X pins σ H s) (hd : DX X.prog X.w kk H a kvs) (hb : kk.R H (.ref b) k) (hv : RelV v u) (hl : kvs.length < sizeLine)
    (q : ∀ es' ep' s', Inv X pins σ (upd H a (dX a es' ep')) s' → DX X.prog X.w kk (upd H a (dX a es' ep')) a (put kvs k v) → Q () s') : wpAny (model X.prog X.w) A (setItem (.ref a) (.ref b) u) Q E s := by
  obtain ⟨es, ep, e, ns, z, xs, h1, h2, h3⟩ := hd
  have D := dictOfH_of I e h1 h2 h3
  have len : kvs.length = xs.length := Paired.length h3
  refine wpAny_setItem_heap (knd := nestedKind X.prog X.w) (hsz := by omega) (by show A.in1.units + 8 < cLine; rw [Around.in1_units]; omega) ⟨kk.is rfl I hb, kk.dep _⟩ D fun h' D' sb => ?_
  obtain ⟨o', es', ep', ho', hx', hd', h1', _, h2'⟩ := D'
  have mu : Mut (H a) := by rw [e]; trivial
  have ts : Tst H (upd H a (dX a es' ep')) := .mut e trivial
  refine q es' ep' _ (I.write (x := a) (e := a) mu (.inl rfl) (fun c x hc y => (sb.2 c hc).trans y) ⟨o', ho'⟩ (dX_ok ⟨o', ho', hx', hd'⟩)) ⟨es', ep', upd_same, ns, Nat.le_trans (length_put _ _ _) hl, _, h1', h2', ?_⟩
  exact Paired.mapP (ents_put h3 hb hv) fun _ _ ⟨q1, q2, q3⟩ => ⟨q1, kk.ts ts q2, q3⟩
def rSetX (P : Program) (w : World) (kk : KeyK K β) : V → V → V → Hp → (Hp → Prop) → Prop := fun o i v H Q => ∃ d b k kvs, o = .ref d ∧ i = .ref b ∧ DX P w kk H d kvs ∧ kk.R H (.ref b) k ∧ kvs.length < sizeLine ∧
  ∀ es ep, DX P w kk (upd H d (dX d es ep)) d (put kvs k v) → Q (upd H d (dX d es ep))
theorem set_X (hu : X.A.units + 64 < cLine) : PSet X (rSetX X.prog X.w kk) := by
  intro pins s σ H o i v ov iv u Q I ro ri rv h
  obtain ⟨d, b, k, kvs, rfl, rfl, hd, hb, hl, q⟩ := h
  cases ro
  cases ri
  exact setX (by omega) I hd hb rv hl fun es ep s' I' D' => ⟨_, I', q es ep D'⟩
/-- {} -/
def tNewX : TE := fun _ H Q => ∀ p, H p = none → (p == sysModules) = false → Q (.ref p) (upd H p (dX p #[] 0))
theorem new_raw (h : Heap) : (h.push { cls := .type "dict", data := .dict #[] }).DictRaw h.objs.size #[] 0 := ⟨_, Heap.get?_push_size _ rfl, ⟨rfl, rfl, rfl⟩, rfl⟩
theorem not_sys (I : Inv X pins σ H s) : (s.heap.objs.size == sysModules) = false := beq_eq_false_iff_ne.mpr (Ne.symm (Nat.ne_of_lt I.big))
theorem pe_newX {pos : Pos} : PE X (.Dict [] [] pos) tNewX := ⟨fun pins s σ H Q I h =>
  wpAny_Dict_empty ⟨.ref s.heap.objs.size, _, I.laid (t' := s.toks) (fun _ _ q => Heap.get?_push_of_some _ q) (Nat.le_refl _) (dX_ok (new_raw s.heap)), rfl, h _ (I.hok.fresh (Nat.le_refl _)) (not_sys I)⟩⟩
theorem DX.nil {P : Program} {w : World} {kk : KeyK K β} {H : Hp} {p : Addr} (h : (p == sysModules) = false) : DX P w kk (upd H p (dX p #[] 0)) p [] := ⟨#[], 0, upd_same, h, Nat.zero_le _, [], rfl, List.nodup_nil, .nil⟩
/-- {k: v} -/
def tOneX (P : Program) (w : World) (kk : KeyK K β) (tk tv : TE) : TE := fun σ H Q => ∀ p, H p = none → (p == sysModules) = false → tPairs [(tk, tv)] σ (upd H p (dX p #[] 0)) fun ps H2 => H2 p = some (dX p #[] 0) ∧
  ∃ b k v, ps = [(.ref b, v)] ∧ kk.R H2 (.ref b) k ∧ ∀ es ep, DX P w kk (upd H2 p (dX p es ep)) p [(k, v)] → Q (.ref p) (upd H2 p (dX p es ep))
theorem pe_oneX {pos : Pos} {ke ve : Expr} {tk tv : TE} (hu : X.A.units + 64 < cLine) (hk : PE X ke tk) (hv : PE X ve tv) : PE X (.Dict [some ke] [ve] pos) (tOneX X.prog X.w kk tk tv) := by
  refine ⟨fun pins s σ H Q I q => ?_⟩
  have hn := I.hok.fresh (Nat.le_refl s.heap.objs.size)
  have I1 := I.laid (a := s.heap.objs.size) (o := dX s.heap.objs.size #[] 0) (h' := s.heap.push { cls := .type "dict", data := .dict #[] }) (t' := s.toks) (fun _ _ q => Heap.get?_push_of_some _ q) (Nat.le_refl _) (dX_ok (new_raw s.heap))
  have hn1 := pairTrees_length [some ke] [ve] X.env pos rfl rfl
  show wpAny _ _ (eval (.Dict [some ke] [ve] pos) X.env) _ _ s
  rw [arm_eval_Dict, zip_pairTrees [some ke] [ve] X.env pos rfl rfl, dictDisplay_pairs _ (fun e => by rw [e] at hn1; cases hn1) (by rw [hn1]; show 1 < 17; decide)]
  refine wpAny_bind (wpAny_standAt (wpAny_bind (wpAny_subDictH (knd := nestedKind X.prog X.w) (by show X.A.units + 8 < cLine; omega) (by rw [hn1]; show 1 ≤ 15; decide)
    (thn ((pps_cons hk hv pps_nil).run pins _ σ _ _ I1 (q _ hn (not_sys I))) fun ws s2 ⟨ps, H2, I2, rel, e, b, k, v, ep, hb, q2⟩ => ?_))))
  subst ep
  cases rel with
  | @cons pv w1 _ _ r t =>
    cases t
    obtain ⟨w1a, w1b⟩ := w1
    obtain ⟨r1, r2⟩ := r
    cases (show w1a = Value.ref b from r1)
    have D0 : s2.heap.DictOfH (nestedKind X.prog X.w) s.heap.objs.size [] := dictOfH_of (kk := kk) (kvs := []) I2 e rfl List.nodup_nil .nil
    refine ⟨[(kk.key k, b, w1b)], ⟨rfl, rfl, ⟨kk.is rfl I2 hb, kk.dep _⟩, trivial⟩, D0, fun h' tk D' sb => wpAny_pure ?_⟩
    obtain ⟨o', es', ep', ho', hx', hd', h1', _, h2'⟩ := D'
    have mu : Mut (H2 s.heap.objs.size) := by rw [e]; trivial
    have ts : Tst H2 (upd H2 s.heap.objs.size (dX s.heap.objs.size es' ep')) := .mut e trivial
    refine ⟨.ref s.heap.objs.size, _, I2.write (x := s.heap.objs.size) (e := s.heap.objs.size) mu (.inl rfl) (fun c x hc y => (sb.2 c hc).trans y) ⟨o', ho'⟩ (dX_ok ⟨o', ho', hx', hd'⟩), rfl, q2 es' ep' ⟨es', ep', upd_same, not_sys I, by show 1 ≤ sizeLine; decide, _, h1', h2', ?_⟩⟩
    exact .cons ⟨rfl, kk.ts ts hb, r2⟩ .nil
/-! ### d.items() -/
def ItX (d : Addr) (es : Array DictEntry) (ep : Nat) (P : Program) (w : World) (kk : KeyK X.K β) (kvs : List (β × V)) : It :=
  ⟨fun i H => H d = some (dX d es ep) ∧ DX P w kk H d kvs ∧ i < kvs.length, fun i H v H' => ∃ T b p, kvs[i]? = some p ∧ kk.R H (.ref b) p.1 ∧ v = .ref T ∧ H T = none ∧ H' = upd H T (.tup [.ref b, p.2]), fun i H => H d = some (dX d es ep) ∧ DX P w kk H d kvs ∧ kvs.length = i⟩
theorem es_len {P : Program} {w : World} {es : Array DictEntry} {xs : List (NestedKey × Addr × Value)} (h1 : es.toList = xs.map (entryOfKey (nestedKind P w))) (h3 : Paired (EntX kk H) kvs xs) : es.size = kvs.length := by
  rw [← Array.length_toList, h1, List.length_map]; exact (Paired.length h3).symm
theorem raw_one {h : Heap} {d : Addr} {es es' : Array DictEntry} {ep ep' : Nat} (a : h.DictRaw d es ep) (b : h.DictRaw d es' ep') : es' = es ∧ ep' = ep := by
  obtain ⟨o, ho, _, hd⟩ := a
  obtain ⟨o', ho', _, hd'⟩ := b
  rw [ho] at ho'
  cases ho'
  rw [hd] at hd'
  injection hd' with e1 e2
  exact ⟨e1.symm, e2.symm⟩
theorem turn_itemsX {elts : List Expr} {kp : Nat} {tpos : Pos} (it d : Addr) (es : Array DictEntry) (ep : Nat) :
    Turn X.prog X.w X.K (.Tuple elts kp tpos) (ItX d es ep X.prog X.w kk kvs) [it] it (fun i h => ∃ ok ov, IsItemIter h it d i es.size ep ok ov) where
  mem := by simp
  obj := fun i h st b hb => by
    obtain ⟨ok, ov, e⟩ := st
    rw [List.mem_singleton.mp hb]
    exact ⟨_, e, fun v z => nomatch z⟩
  keep := fun i h h' ⟨ok, ov, e⟩ k => ⟨ok, ov, k it (by simp) _ e⟩
  item := by
    intro Y hP hw hK hc i pins s σ H E I hf st hg
    obtain ⟨hd0, ⟨es2, ep2, e, ns, z, xs, h1, h2, h3⟩, hi⟩ := hg
    have raw := inv_raw I hd0
    obtain ⟨rfl, rfl⟩ := raw_one raw (inv_raw I e)
    obtain ⟨ok, ov, he⟩ := st
    have len := es_len h1 h3
    have hlt : it < s.heap.objs.size := Heap.lt_size he
    have hie : i < es2.size := by rw [len]; exact hi
    have hxl : xs.length = kvs.length := (Paired.length h3).symm
    have hx : xs[i]? = some xs[i] := List.getElem?_eq_getElem (by omega)
    obtain ⟨p, hp, e1, hR, rv⟩ := ents_get h3 hx
    have hent : es2[i] = entryOfKey (nestedKind X.prog X.w) xs[i] := by
      have := entry_at h1 i
      rw [Array.getElem?_eq_getElem hie, hx] at this
      exact Option.some.inj this
    rw [← hP, ← hw]
    refine wpAny_pyNext_items_item_raw he raw hie fun h1' ho hT hz hk => ?_
    rw [hent] at ho hT
    refine ⟨_, rfl, wpAny_letOwnedTupleGo_items (s := { s with heap := h1' }) ho fun h2' he' sb => ?_⟩
    have hT2 : h2'.get? s.heap.objs.size = some { cls := .type "tuple", data := .seq #[Value.ref xs[i].2.1, xs[i].2.2] } := (sb.2 _ (Nat.ne_of_gt hlt)).trans hT
    have I1 : Inv Y pins σ (upd H s.heap.objs.size (.tup [.ref xs[i].2.1, p.2])) { s with heap := h2' } :=
      I.turnedNew (t' := s.toks) (ch := [it]) (fun b ob hb q => (sb.2 b (by simpa using hb)).trans (hk b ob (by simpa using hb) q)) hf (Nat.le_refl _)
        ⟨by show 2 ≤ sizeLine; decide, [.ref xs[i].2.1, xs[i].2.2], .cons rfl (.cons rv .nil), ⟨_, hT2, rfl, _, rfl⟩⟩
    refine ⟨.ref s.heap.objs.size, _, I1, rfl, ⟨_, _, p, hp, hR, rfl, I.hok.fresh (Nat.le_refl _), rfl⟩, ⟨_, _, he'⟩, fun b hb => ?_⟩
    rw [List.mem_singleton.mp hb, upd_ne (Nat.ne_of_lt hlt)]
    exact (hf it (by simp)).1
  done := by
    intro Y hP hw hK hc i pins s σ H E I hf st hg
    obtain ⟨hd0, ⟨es2, ep2, e, ns, z, xs, h1, h2, h3⟩, hi⟩ := hg
    have raw := inv_raw I hd0
    obtain ⟨rfl, rfl⟩ := raw_one raw (inv_raw I e)
    obtain ⟨ok, ov, he⟩ := st
    have len := es_len h1 h3
    obtain ⟨f0, f1, f2, f3, f4, f5⟩ := hf it (by simp)
    rw [← hP, ← hw]
    exact wpAny_pyNext_items_end_raw (I.ok.hd hc) he raw (by omega) fun h' eb => ⟨rfl, I.turned (t' := s.toks) (fun b ob hb q => eb b ob hb q) f0 f1 f3 f4 f5⟩
  self := fun A i s Q E ⟨_, _, e⟩ h => PySem.W.kcp_self e h
def iItemsX (P : Program) (w : World) (kk : KeyK X.K β) (td : TE) : TI := fun σ H R => td σ H fun x H1 => ∃ d es ep, ∃ kvs : List (β × V), x = .ref d ∧ H1 d = some (dX d es ep) ∧ DX P w kk H1 d kvs ∧ R (ItX d es ep P w kk kvs) H1
theorem pi_itemsX {elts : List Expr} {kp : Nat} {e : Expr} {td : TE} {apos cpos tpos : Pos} (he : PE X e td) (hbase : attributeBase e "items" X.env (eval e X.env) = eval e X.env := by rfl) (hline : (apos.endLine == cpos.line) = true := by rfl) :
    PI X (.Tuple elts kp tpos) (.Call (.Attribute e "items" apos) [] [] cpos) (iItemsX X.prog X.w kk td) := by
  refine ⟨fun pins s σ H R I h => ?_⟩
  refine wpAny_Call_method (T := "dict") (id := "dict.items") hbase rfl hline PySem.F.plainAttrs_dict PySem.F.slot_dict_items PySem.F.type_dict_items (thn (he.run pins s σ H _ I h) fun u s1 ⟨x, H1, I1, rx, d, es, ep, kvs, ex, hd0, D, q⟩ => ?_)
  subst ex
  cases (show u = Value.ref d from rx)
  have raw := inv_raw I1 hd0
  obtain ⟨o, ho, hx, _⟩ := id raw
  obtain ⟨_, _, _, ns, _⟩ := id D
  refine ⟨raw.typeIs, fun a ea => by cases ea; exact ⟨o, ho, hx.2.1⟩, ?_⟩
  have I2 : Inv X pins σ H1 { s1 with heap := s1.heap.push { cls := .type "dict_items", data := .fields #[.ref d] } } := I1.kept (t' := s1.toks) fun b ob q => Heap.get?_push_of_some _ q
  have fin : wpAny (model X.prog X.w) X.A (pyIter (.ref s1.heap.objs.size)) (PIE X pins σ (.Tuple elts kp tpos) R) X.xe { s1 with heap := s1.heap.push { cls := .type "dict_items", data := .fields #[.ref d] } } := by
    refine wpAny_pyIter_items_raw (d := d) (es := es) (ep := ep) ⟨_, Heap.get?_push_size _ rfl, rfl, rfl⟩ (raw.at fun o e => Heap.get?_push_of_some _ e) (pi_one (tk := s1.toks) I2 _ (turn_itemsX (kk := kk) (kvs := kvs) _ d es ep) ⟨.none, .none, ?_⟩ q)
    exact Heap.get?_push_size _ rfl
  show wpAny _ _ (callWith cpos (.builtin "dict.items") [.ref d] [] []) _ X.xe s1
  exact method_meetsIn PySem.F.slot_dict_items PySem.F.entry_dict_items rfl (PySem.evalArgs_none ⟨rfl, raw.typeIs, PySem.F.args_dict_items_1 _, _, meets_dict_items_raw d ns, ⟨es, ep, raw⟩, fin⟩)
theorem for_itemsX {d : Addr} {es : Array DictEntry} {ep : Nat} {P : Program} {w : World} {kvs : List (β × V)} {g : TG} {tb : TS} {D : Ends} {σ : L2.St} {H : Hp} (Pv : Nat → L2.St → Hp → Prop) (h0 : Pv 0 σ H)
    (hl : ∀ i σ H, i ≤ kvs.length → Pv i σ H → H d = some (dX d es ep) ∧ DX P w kk H d kvs)
    (turn : ∀ i p b T σ H, kvs[i]? = some p → Pv i σ H → kk.R H (.ref b) p.1 → H T = none → g (.ref T) σ (upd H T (.tup [.ref b, p.2])) fun σ2 H2 => tb { D with nx := Pv (i + 1), ct := Pv (i + 1), bk := D.nx } σ2 H2) (hd : ∀ σ H, Pv kvs.length σ H → D.nx σ H) :
    ∃ W : Nat → Nat → L2.St → Hp → Prop, (∃ m, W 0 m σ H) ∧ ∀ i m σ H, W i m σ H →
      ((ItX d es ep P w kk kvs).stop i H ∧ D.nx σ H) ∨ ((ItX d es ep P w kk kvs).go i H ∧ ∃ N : L2.St → Hp → Prop, (∀ σ' H', N σ' H' → ∃ m', m' < m ∧ W (i + 1) m' σ' H') ∧ ∀ x H', (ItX d es ep P w kk kvs).yld i H x H' → g x σ H' fun σ2 H2 => tb { D with nx := N, ct := N, bk := D.nx } σ2 H2) := by
  refine ⟨fun i m σ H => m = kvs.length - i ∧ i ≤ kvs.length ∧ Pv i σ H, ⟨_, rfl, Nat.zero_le _, h0⟩, fun i m σ H ⟨em, hi, pv⟩ => ?_⟩
  subst em
  have q := hl i σ H hi pv
  by_cases c : i < kvs.length
  · refine .inr ⟨⟨q.1, q.2, c⟩, Pv (i + 1), fun σ' H' z => ⟨kvs.length - (i + 1), by omega, rfl, c, z⟩, fun x H' y => ?_⟩
    obtain ⟨T, b, p, hp, hR, rfl, hT, rfl⟩ := y
    exact turn i p b T σ H hp pv hR hT
  · have : i = kvs.length := by omega
    subst this
    exact .inl ⟨⟨q.1, q.2, rfl⟩, hd σ H pv⟩
/-! ### list(d) -/
theorem call_list_X (hc : X.calm = true) : CallR X (.type "list") (fun vs H Q => ∃ d, ∃ kvs : List (β × V), vs = [V.ref d] ∧ DX X.prog X.w kk H d kvs ∧ ∀ p ys, H p = none → Paired (fun v k => kk.R H v k) ys (kvs.map (·.1)) → Q (.ref p) (upd H p (.lst ys))) := by
  intro pins s σ H vs us Q I r h
  obtain ⟨d, kvs, rfl, ⟨es, ep, e, ns, z, xs, h1, h2, h3⟩, q⟩ := h
  obtain ⟨u, rfl, rx⟩ := vals1 r
  cases rx
  have len := es_len h1 h3
  refine PySem.W.kdl_call (PySem.KdlSrc.rawDict (prog := X.prog) (w := X.w) (es := es) (ep := ep) ns) (I.ok.hd hc) (inv_raw I e) (by omega) fun h' tk acc c hk hS hacc => ?_
  have keys : ∀ {kvs : List (β × V)} {xs : List (NestedKey × Addr × Value)}, Paired (EntX kk H) kvs xs → Paired (fun v k => kk.R H v k) (xs.map fun x => V.ref x.2.1) (kvs.map (·.1)) := by
    intro kvs xs p
    induction p with
    | nil => exact .nil
    | cons r t ih => exact .cons r.2.1 ih
  have ea : acc.toList = xs.map fun x => Value.ref x.2.1 := by
    apply List.ext_getElem?
    intro j
    by_cases hj : j < es.size
    · have hja : j < acc.size := by rw [hacc.1]; exact hj
      obtain ⟨hj2, ev⟩ := hacc.2 j acc[j] (Array.getElem?_eq_getElem hja)
      have hent := entry_at h1 j
      rw [Array.getElem?_eq_getElem hj] at hent
      rw [Array.getElem?_toList, Array.getElem?_eq_getElem hja, ev, List.getElem?_map]
      cases hx : xs[j]? with
      | none => rw [hx] at hent; cases hent
      | some x =>
        rw [hx] at hent
        have hent := Option.some.inj hent
        rw [hent]
        rfl
    · rw [List.getElem?_eq_none (by rw [Array.length_toList, hacc.1]; omega), List.getElem?_eq_none (by rw [List.length_map, ← Paired.length h3]; omega)]
  have rv : Vals (xs.map fun x => V.ref x.2.1) acc.toList := by
    rw [ea]
    clear ea h1 h2 h3 hacc len
    induction xs with
    | nil => exact .nil
    | cons x xs ih => exact .cons rfl ih
  refine ⟨.ref s.heap.objs.size, upd H s.heap.objs.size (.lst (xs.map fun x => V.ref x.2.1)), I.laid hk (Nat.le_refl _) ⟨by rw [List.length_map, ← Paired.length h3]; exact z, acc.toList, c, rv, by rw [Array.toArray_toList]; exact hS⟩, rfl, q _ _ (I.hok.fresh (Nat.le_refl _)) (keys h3)⟩
end
end
end Tr

/-! set(l) of people; sorted of it. -/
namespace Tr
open PySem PySem.Spec PyProof.Rows L2
section
variable {P : Program} {w : World} {A : Around} {E : Value → Shared → Prop} {s : Shared}
/-- an empty set as it is laid -/
abbrev o0 (w : World) : Obj := { cls := .type "set", dict := none, data := .set #[] 0 (.fresh 0 0 (!w.params.followText "set-order")) }
theorem call_set_lst {l : Addr} {items : Array Value} (ns : List Int) {Q : Value → Shared → Prop} (hh : A.handled = none) (hl : s.heap.IsList l items) (hi : IntsAre items.toList ns) (few : ns.length + 1 < scanBound)
    (k : ∀ (h2 : Heap) (tk c : Nat), SetR w h2 s.heap.objs.size (fun j => decide (j ∈ ns)) c → c ≤ ns.length → (∀ b o, s.heap.get? b = some o → h2.get? b = some o) → Q (.ref s.heap.objs.size) { s with heap := h2, toks := tk }) :
    wpAny (model P w) A (call (.type "set") [.ref l]) Q E s := by
  have isz : items.size = ns.length := by have z := IntsAre.length hi; rw [Array.length_toList] at z; exact z
  obtain ⟨c0, tl, mro⟩ := PySem.F.called_set.mro
  have made := PySem.F.called_set.made
  have issub := PySem.F.called_set.sub
  refine wpAny_call (codeAny_of_tree ?_)
  show wpAny _ _ (callAny (.type "set") _) _ _ _
  refine wpAny_pure ⟨Code.quiet_builtin _ (by decide +kernel), codeAny_builtin PySem.F.entry_type_call ?_⟩
  rw [Around.under_plain (weight_type_call_type "set" [.ref l] []) rfl]
  have a1 := PySem.F.called_set.notType
  have a2 := PySem.F.called_set.canCreate
  have a3 := PySem.F.typeCall_set_1 (.ref l)
  repeat (any_goals (first | assumption | wp_step))
  refine codeAny_mono (L2.code_set_led1 (.ref l) (E := E) (Q₁ := fun ob s1 => ob = .ref s.heap.objs.size ∧ s1 = { s with heap := s.heap.push (o0 w) }) ⟨rfl, rfl⟩) fun r s1 hr => ?_
  cases r with
  | error e => exact hr
  | ok fl =>
    cases fl with
    | ret ob =>
      obtain ⟨rfl, rfl⟩ := hr
      have at0 : (s.heap.push (o0 w)).get? s.heap.objs.size = some (o0 w) := Heap.get?_push_size _ rfl
      have ty0 : Shared.TypeIs { s with heap := s.heap.push (o0 w) } (.ref s.heap.objs.size) "set" := ⟨_, at0, rfl⟩
      have b1 := PySem.F.called_set.init.lookup
      have b2 := PySem.F.called_set.init.bind (.ref s.heap.objs.size)
      repeat (any_goals (first | assumption | wp_step))
      refine codeAny_mono (codeAny_call_builtin (R := wants (fun r s2 => r = .none ∧ ∃ h2 tk c, s2 = { s with heap := h2, toks := tk } ∧ SetR w h2 s.heap.objs.size (fun j => decide (j ∈ ns)) c ∧ c ≤ ns.length ∧
          (∀ b o, s.heap.get? b = some o → h2.get? b = some o)) E) PySem.F.called_set.init.plain PySem.F.entry_set_init (check_set_init_1 ty0 ?_)) fun r2 s2 hr2 => ?_
      · obtain ⟨⟨cl, di, da, sl⟩, ho, hc, nl, hd⟩ := hl
        simp only at hc hd
        subst hc; subst hd
        have ho1 : (s.heap.push (o0 w)).get? l = some { cls := .type "list", dict := di, data := .seq items nl, slots := sl } := Heap.get?_push_of_some _ ho
        have sub1 := PySem.F.sub_list_set
        have sub2 := PySem.F.sub_list_frozenset
        have nodict : (Value.type "list" == Value.type "dict") = false := by decide
        have hl1 : (s.heap.push (o0 w)).IsList l items := ⟨_, ho1, rfl, nl, rfl⟩
        unfold Builtin.«set.__init__» noKeywords Builtin.Frozenset.updateFrom
        generalize iterIs : pyIter = itf
        wp_walk
        subst iterIs
        refine wpAny_pyIter_list hl1 ?_
        refine wpAny_bind (wpAny_runValue ?_)
        have ll : l < s.heap.objs.size := Heap.lt_size ho
        have hh3 : A.in1.in1.in1.handled = none := by simp [hh]
        have ne1 : l ≠ (s.heap.push (o0 w)).objs.size := by rw [Heap.size_push]; exact Nat.ne_of_lt (Nat.lt_succ_of_lt ll)
        have apart : s.heap.objs.size ∉ [(s.heap.push (o0 w)).objs.size, l] := by
          rw [Heap.size_push]
          intro z
          rcases List.mem_cons.mp z with z | z
          · exact absurd z (Nat.ne_of_lt (Nat.lt_succ_self _))
          · exact absurd (List.mem_singleton.mp z) (Nat.ne_of_gt ll)
        have vals : ∀ (i : Nat) (v : Value), items[i]? = some v → ∃ k t, ns[i]? = some k ∧ v = .int k t := fun i v hv => by
          have lt : i < ns.length := by rw [← isz]; exact (Array.getElem?_eq_some_iff.mp hv).1
          obtain ⟨t, e⟩ := PyProof.Rows.IntsAre.int_at hi i v (by rw [Array.getElem?_toList]; exact hv)
          exact ⟨ns[i], t, List.getElem?_eq_getElem lt, by rw [e, List.getD_eq_getElem?_getD, List.getElem?_eq_getElem lt] <;> rfl⟩
        refine L2.set_update_ints ((Walks.list hh3 _ l ne1 items).toS) s.heap.objs.size apart ns isz few vals (items.size - 0) 0 _ (by omega) (Nat.zero_le _) ⟨⟨_, Heap.get?_push_size _ rfl, rfl, rfl⟩, (hl1.push _)⟩ ?start ?fin
        case start => exact ⟨0, Nat.le_refl 0, L2.setR_new_at (Heap.get?_push_of_some _ at0)⟩
        case fin =>
          intro s3 c3 mv le3 R3
          obtain ⟨h3, g3, d3, t3, os3⟩ := s3
          have e1 : g3 = s.gens := mv.gens
          have e2 : d3 = s.drawn := mv.drawn
          have e3 : os3 = s.os := mv.os
          subst e1; subst e2; subst e3
          show wpAny _ _ _ _ _ _
          refine wpAny_pure ?_
          show wpAny _ _ (ret Value.none) _ _ _
          rw [isz] at le3
          refine wpAny_pure ⟨rfl, h3, t3, c3, rfl, R3, le3, fun b o e => ?_⟩
          have lb : b < s.heap.objs.size := Heap.lt_size e
          refine mv.heap b o (fun z => ?_) (Heap.get?_push_of_some _ (Heap.get?_push_of_some _ e))
          rcases List.mem_cons.mp z with z | z
          · exact absurd z (Nat.ne_of_lt lb)
          · rw [List.mem_singleton.mp z, Heap.size_push] at lb
            exact absurd lb (Nat.not_lt.mpr (Nat.le_succ _))
      · cases r2 with
        | error e => exact hr2
        | ok fl2 =>
          cases fl2 with
          | ret r =>
            obtain ⟨rfl, h2, tk, c2, rfl, R2, le2, k2⟩ := hr2
            repeat (any_goals (first | assumption | wp_step))
            exact k _ _ _ R2 le2 k2
          | _ => exact hr2.elim
    | _ => exact hr.elim
end
section
variable {X : Cx}
/-- set(xs), xs a list or a tuple of ints -/
def rSetI (K : PySem.W.Frag) (w : World) : List V → Hp → VK → Prop := fun vs H Q => ∃ (l : Addr) (ns : List Int), vs = [V.ref l] ∧ (SqL K H l (ns.map V.int) ∨ SqT K H l (ns.map V.int)) ∧ ns.length ≤ 60 ∧
  ∀ p c, H p = none → c ≤ ns.length → Q (.ref p) (upd H p (SetO w p (fun j => decide (j ∈ ns)) c))
theorem cr_setI (hc : X.calm = true) : CallR X (.type "set") (rSetI X.K X.w) := by
  intro pins s σ H vs us Q I r h
  obtain ⟨l, ns, rfl, hs, few, q⟩ := h
  have few' : ns.length + 1 < scanBound := by show ns.length + 1 < 4096; omega
  have fin : ∀ (h2 : Heap) (tk c : Nat), SetR X.w h2 s.heap.objs.size (fun j => decide (j ∈ ns)) c → c ≤ ns.length → (∀ b o, s.heap.get? b = some o → h2.get? b = some o) → EP X pins σ Q (.ref s.heap.objs.size) { s with heap := h2, toks := tk } := fun h2 tk c R le k =>
    ⟨.ref _, _, I.laid k (Nat.le_refl _) (setO_new R), rfl, q _ c (I.hok.fresh (Nat.le_refl _)) le⟩
  rw [Vals.ref1 r]
  rcases hs with hs | hs
  · obtain ⟨its, rv, hl, _⟩ := I.list hs
    exact call_set_lst ns (I.ok.hd hc) hl.isList (by simpa using rv.ints) few' fin
  · obtain ⟨its, rv, hl, _⟩ := I.tuple hs
    exact L2.call_set_tupI ns (I.ok.hd hc) hl (by simpa using rv.ints) few' fin
end
end Tr

/-! t * 1; t.index(x); tuple(l) whose own object is known; the kinds of keys. -/
namespace Tr
open PySem PySem.Spec PyProof.Rows L2
open AutoSeq1 (wpAny_loadPart')
theorem tup_mul1 (l : Addr) (items : Array Value) (n : Nat) (dd : Option Addr) (sl : Array (Option Value)) (u : Tok) (ne : items.isEmpty = false) :
    Meets (Builtin.«tuple.__mul__» ⟨[.ref l, .int 1 u], []⟩) (fun _ R s => s.heap.get? l = some { cls := .type "tuple", dict := dd, data := .seq items n, slots := sl } ∧ R (.ok (.ret (Value.ref l))) s) :=
  .of_wp fun prog w A R s hyp => by
    obtain ⟨hp, gg, d, tk, os⟩ := s
    obtain ⟨hl, hyp⟩ := hyp
    have f1 := AutoSeq1.idx_int
    wp_walk using wpAny_loadPart' hl
    exact ⟨_, rfl, hyp⟩
section
variable {X : Cx}
/-- t * 1 is t -/
def rRep1 (K : PySem.W.Frag) : R2 := fun x y H Q => ∃ l xs, x = .ref l ∧ y = .int 1 ∧ SqT K H l xs ∧ xs ≠ [] ∧ Q (.ref l) H
theorem op_rep1 : OpR X (binaryOp .Mult) (rRep1 X.K) := by
  intro pins s σ H x y v u Q I rx ry h
  obtain ⟨l, xs, rfl, rfl, hT, hne, q⟩ := h
  cases rx
  obtain ⟨t, rfl⟩ := ry
  obtain ⟨its, r, ⟨⟨cl, di, da, sl⟩, ho, hc, n, hd⟩, _⟩ := I.tuple hT
  simp only at hc hd
  subst hc hd
  have ne : its.toArray.isEmpty = false := by
    cases r with
    | nil => exact absurd rfl hne
    | cons _ _ => rfl
  exact wpAny_binaryOp_repeat_ref (T := "tuple") (U := "int") (by decide) ⟨_, ho, rfl⟩ (fun s' => typeIs_int s' 1 t) L2.noFill_tuple_mul PySem.F.fills_int_mul PySem.F.slot_int_rmul L2.repeat_tuple PySem.F.slot_int_index.lookup
    (call_meets PySem.F.slot_int_rmul (typeIs_int s 1 t) PySem.F.entry_int_rmul (PySem.F.args_int_rmul_2 _ _) (L2.int_rmul_tuple 1 t l its.toArray n di sl)
      ⟨ho, rfl, ⟨_, ho, rfl⟩, call_meets PySem.F.slot_tuple_mul ⟨_, ho, rfl⟩ PySem.F.entry_tuple_mul (PySem.F.args_tuple_mul_2 _ _) (tup_mul1 l its.toArray n di sl t ne) ⟨ho, ⟨.ref l, H, I, rfl, q⟩⟩⟩)
/-! ### tuple(l), its own object known -/
def TZ (H : Hp) (v : V) (r : List Nat) : Prop := ∃ a o, v = .ref a ∧ H a = some (.frz o (.tup (r.map vi))) ∧ o.dict = none
theorem TZ.ts {H H' : Hp} {v : V} {r : List Nat} (t : Tst H H') (h : TZ H v r) : TZ H' v r := let ⟨a, o, e, x, d⟩ := h; ⟨a, o, e, t.frz _ _ _ x, d⟩
theorem TZ.tr {K : PySem.W.Frag} {H : Hp} {v : V} {r : List Nat} (h : TZ H v r) : TR K H v r := let ⟨a, o, e, x, _⟩ := h; ⟨a, e, .inl (.inr ⟨o, x⟩)⟩
theorem call_tup_z : CallR X (.type "tuple") (fun vs H Q => ∃ p ys, vs = [V.ref p] ∧ SqL X.K H p ys ∧ ∀ l o, H l = none → o.dict = none → Q (.ref l) (upd H l (.frz o (.tup ys)))) := by
  intro pins s σ H vs us Q I r h
  obtain ⟨p, ys, rfl, hs, q⟩ := h
  obtain ⟨its, rv, pl, hz⟩ := I.list hs
  have hlen := rv.length
  rw [Vals.ref1 r]
  refine call_tuple_list pl.isList (fun h' kp => ?_) (by rw [List.size_toArray, ← hlen]; exact hz)
  have I1 : Inv X pins σ H { s with heap := h' } := I.kept (t' := s.toks) kp
  have hn := I1.hok.fresh (Nat.le_refl h'.objs.size)
  exact ⟨.ref h'.objs.size, _, I1.laid (t' := s.toks) (o := .frz { cls := .type "tuple", data := .seq its.toArray } (.tup ys)) (fun b o e => Heap.get?_push_of_some _ e) (Nat.le_refl _) ⟨Heap.get?_push_size _ rfl, hz, its, rv, IsTup.new _ _⟩, rfl, q _ _ hn rfl⟩
/-! ### t.index(x) -/
instance : PySem.W.Datum Nat where
  toD := dN
  plain _ := rfl
  eqv := eqv_dN
  depth := 0
  depth_le n := by rw [depth_dN]; exact Nat.le_refl _
theorem holdAll_nat {h : Heap} : ∀ {r : List Nat} {us : List Value}, Vals (r.map vi) us → PySem.W.HoldAll h us r
  | [], _, .nil => PySem.W.HoldAll.nil
  | n :: r, _, .cons ⟨t, e⟩ k => by
    subst e
    exact PySem.W.HoldAll.cons ⟨_, .int (n : Int) t⟩ (holdAll_nat k)
def tTix (K : PySem.W.Frag) (to : TE) (t : TA) : TE := fun σ H Q => to σ H fun x H1 => ∃ a o u, x = .ref a ∧ H1 a = some (.frz o (.tup u)) ∧ o.dict = none ∧ t σ H1 fun xs H2 => ∃ (r : List Nat) (n : Nat), SqT K H2 a (r.map vi) ∧ xs = [vi n] ∧ n ∈ r ∧ Q (vi (r.idxOf n)) H2
variable {o e : Expr} {es : List Expr} {to : TE} {t : TA} {apos cpos : Pos}
theorem pe_tix (hu : X.A.units + 64 < cLine) (ho : PE X o to) (ha : PA X (e :: es) t)
    (hbase : attributeBase o "index" X.env (eval o X.env) = eval o X.env := by rfl)
    (hfew : ((backTo cpos (starEach (e :: es) X.env)).all (fun x => !x.1) && (backToKw cpos (keywordEach [] X.env)).all (fun x => x.1.isSome) && decide ((e :: es).length + ([] : List Keyword).length + (if ([] : List Keyword).isEmpty then 0 else 1) < 30)) = true := by rfl)
    (hline : (apos.endLine == cpos.line) = true := by rfl) (hs : starEach (e :: es) X.env = (false, eval e X.env) :: starEach es X.env := by rfl) (plain : (backTo cpos (starEach es X.env)).any (·.1) = false := by rfl) :
    PE X (.Call (.Attribute o "index" apos) (e :: es) [] cpos) (tTix X.K to t) := by
  refine ⟨fun pins s σ H Q I h => ?_⟩
  refine wpAny_Call_method_late hbase hfew hline rfl (thn (ho.run pins s σ H _ I h) fun v s1 ⟨x, H1, I1, r1, a, ob, u, ex, hz, dn, q1⟩ => ?_)
  subst ex
  cases (show v = Value.ref a from r1)
  obtain ⟨hat, _, _, _, hk⟩ := (show ObjOk X.prog X.w H1 s1.heap a (.frz ob (.tup u)) from I1.hok a _ hz)
  obtain ⟨o2, h2, hcl, _⟩ := hk
  rw [hat] at h2
  cases h2
  refine ⟨"tuple", "tuple.index", PySem.F.plainAttrs_tuple, PySem.F.slot_tuple_index, PySem.F.type_tuple_index, ⟨_, hat, hcl⟩, fun b eb => by cases eb; exact ⟨_, hat, dn⟩, ?_⟩
  have hA := ha.run cpos pins s1 σ H1 _ I1 q1
  rw [hs] at hA ⊢
  refine Calls.callWith_builtin (by show (false || (backTo cpos (starEach es X.env)).any (·.1)) = false; rw [plain]; rfl) (Calls.evalArgs_plain ?_)
  refine thn hA fun us s2 ⟨vs, H2, I2, r2, r, n, hT, ev, hn, q2⟩ => ?_
  subst ev
  obtain ⟨u2, rfl, t2, rfl⟩ := vals1 r2
  obtain ⟨its, rv, tp, _⟩ := I2.tuple hT
  exact PySem.W.index_tuple_datum (α := Nat) (x := n) (xs := r) tp (holdAll_nat rv) ⟨_, .int (n : Int) t2⟩ (by show X.A.units + 1 + 0 < cLine; omega) hn ⟨vi (r.idxOf n), H2, I2.tok _, ⟨_, rfl⟩, q2⟩
end
/-! ### the kinds of keys -/
def keyR (r : List Nat) : NestedKey := .tup (r.map fun n : Nat => NestedKey.num (n : Int))
def keyW (w : Web) : NestedKey := .tup (w.map keyR)
theorem keyR_inj (a b : List Nat) (h : keyR a = keyR b) : a = b := by
  injection h with h
  exact List.map_inj_right (fun x y e => by injection e with e; exact Int.ofNat.inj e) |>.mp h
theorem keyW_inj (a b : Web) (h : keyW a = keyW b) : a = b := by
  injection h with h
  exact List.map_inj_right (fun x y e => keyR_inj x y e) |>.mp h
theorem kdepthAll_le {β : Type} {f : β → NestedKey} {k : Nat} (h : ∀ b, (f b).depth ≤ k) : ∀ l : List β, NestedKey.depthAll (l.map f) ≤ k
  | [] => by simp [NestedKey.depthAll]
  | b :: l => by
    have h1 := h b
    have h2 := kdepthAll_le h l
    simp only [List.map_cons, NestedKey.depthAll]
    omega
theorem keyR_dep (r : List Nat) : (keyR r).depth ≤ 1 := by
  have := kdepthAll_le (f := fun n : Nat => NestedKey.num (n : Int)) (k := 0) (fun n => by simp [NestedKey.depth]) r
  simp only [keyR, NestedKey.depth]; omega
theorem keyW_dep (w : Web) : (keyW w).depth ≤ 2 := by
  have := kdepthAll_le (f := keyR) (k := 1) keyR_dep w
  simp only [keyW, NestedKey.depth]; omega
theorem nums_is {h : Heap} : ∀ {r : List Nat} {us : List Value}, Vals (r.map vi) us → NestedAll h (r.map fun n : Nat => NestedKey.num (n : Int)) us
  | [], _, .nil => .nil
  | n :: r, _, .cons ⟨t, e⟩ k => by subst e; exact .cons (.int _ t) (nums_is k)
section
variable {X : Cx} {pins : List (Addr × Obj)} {σ : L2.St} {H : Hp} {s : Shared}
theorem row_is (I : Inv X pins σ H s) {v : V} {u : Value} {r : List Nat} (h : TR X.K H v r) (ru : RelV v u) : NestedIs s.heap (keyR r) u := by
  obtain ⟨a, rfl, hs⟩ := h
  cases ru
  obtain ⟨its, rv, ⟨o, ho, hc, n, hd⟩, _⟩ := I.tuple hs
  exact .tup ho hc hd (by simpa using nums_is rv)
theorem rows_is (I : Inv X pins σ H s) : ∀ {vs : List V} {w : Web} {us : List Value}, Paired (TR X.K H) vs w → Vals vs us → NestedAll s.heap (w.map keyR) us
  | _, _, _, .nil, .nil => .nil
  | _, _, _, .cons q k, .cons r t => .cons (row_is I q r) (rows_is I k t)
end
def kkW (K : PySem.W.Frag) : KeyK K Web where
  key := keyW
  R := TW K
  inj := keyW_inj
  dep w := Nat.le_trans (keyW_dep w) (by decide)
  ts := fun t h => h.ts t
  is := fun {X pins σ H s b k} e I h => by
    subst e
    obtain ⟨a, vs, ea, hs, p⟩ := h
    cases ea
    obtain ⟨its, rv, ⟨o, ho, hc, n, hd⟩, _⟩ := I.tuple hs
    exact .tup ho hc hd (by simpa using rows_is I p rv)
def kkZ (K : PySem.W.Frag) : KeyK K (List Nat) where
  key := keyR
  R := TZ
  inj := keyR_inj
  dep r := Nat.le_trans (keyR_dep r) (by decide)
  ts := fun t h => h.ts t
  is := fun {X pins σ H s b k} e I h => row_is I h.tr rfl
end Tr

/-! The defs: what stands where; how one calls another. -/
namespace Tr
open PySem PySem.Spec PyProof.Rows L2
def topS (i : Nat) : Stmt := PySem.Challenge.pw_introducers_k29_whole_trees.main.body.getD i (.Pass ⟨0, 0, 0, 0⟩)
/-- no built-in name is covered -/
structure Std (mg : Str → Option Value) : Prop where
  len : mg "len" = none
  rng : mg "range" = none
  isi : mg "isinstance" = none
  int : mg "int" = none
  bool : mg "bool" = none
  tup : mg "tuple" = none
  lst : mg "list" = none
  str : mg "str" = none
  enum : mg "enumerate" = none
  all : mg "all" = none
  any : mg "any" = none
  srt : mg "sorted" = none
  set : mg "set" = none
  max : mg "max" = none
  min : mg "min" = none
  mp : ∃ t, mg "MOST_PEOPLE" = some (.int 8 t)
  mt : ∃ t, mg "MOST_TREES" = some (.int 6 t)
/-- a def under a name -/
structure Has (P : Program) (w : World) (K : PySem.W.Frag) (mg : Str → Option Value) (base : Heap) (k : Nat) (x : Str) (ps : List Str) (sp : Sp) : Prop where
  ex : ∃ f fd, FnOk P w K mg base CX0 k f fd ps sp ∧ mg x = some (.ref f) ∧ PySem.W.keepIn K (.ref f) = true ∧ Binds K fd ps []
theorem pe_has {X : Cx} {k : Nat} {x : Str} {ps : List Str} {sp : Sp} {p pos : Pos} {e : Expr} {es : List Expr} {t : TA} (G : Has X.prog X.w X.K X.mg X.base k x ps sp) (hr : Room k X.A) (ha : PA X (e :: es) t) (hg : Gl X x := by rfl)
    (hdb : (x == ("__debug__" : Str)) = false := by decide) (he : starEach (e :: es) X.env = (false, eval e X.env) :: starEach es X.env := by rfl) (hpl : (backTo pos (starEach es X.env)).any (·.1) = false := by rfl) :
    PE X (.Call (.Name x p) (e :: es) [] pos) (tCall sp [] E0 t) := by
  obtain ⟨f, fd, F, hm, hk, hb⟩ := G.ex
  exact pe_call F hr hg hm hk hb .nil pass0 ha hdb he hpl
section
variable {K : PySem.W.Frag} {H : Hp} {a : Addr} {xs : List V}
theorem ty_tup (h : SqT K H a xs) : TyX K H (.ref a) (.type "tuple") := by
  rcases h with (h | ⟨o, h⟩) | ⟨o, _, _, h, c, _⟩
  · exact .base (.tup h)
  · exact .fTuple h
  · exact .kTuple h c
theorem ty_lst (h : SqL K H a xs) : TyX K H (.ref a) (.type "list") := by
  rcases h with (h | ⟨o, h⟩) | ⟨o, _, _, h, c, _⟩
  · exact .base (.lst h)
  · exact .base (.frz h)
  · exact .kList h c
theorem ty_int (i : Int) : TyX K H (.int i) (.type "int") := .base (.int i)
theorem same_sqT {H' : Hp} (s : Same H H') (h : SqT K H a xs) : SqT K H' a xs := (Tst.of s).sqT h
end
theorem flat_vi (r : List Nat) : (r.map vi).all flatV = true := by
  rw [List.all_eq_true]
  intro v hv
  obtain ⟨n, _, rfl⟩ := List.mem_map.mp hv
  rfl
theorem inV_vi (n : Nat) (r : List Nat) : inV (vi n) (r.map vi) = decide (n ∈ r) := by
  rw [Bool.eq_iff_iff, decide_eq_true_eq]
  unfold inV
  rw [List.any_eq_true]
  constructor
  · rintro ⟨v, hv, e⟩
    obtain ⟨m, hm, rfl⟩ := List.mem_map.mp hv
    have : ((m : Int) == (n : Int)) = true := e
    have := eq_of_beq this
    have : m = n := by omega
    exact this ▸ hm
  · intro h
    exact ⟨_, List.mem_map_of_mem h, (beq_self_eq_true (n : Int) : _)⟩
section
variable {P : Program} {w : World} {K : PySem.W.Frag} {mg : Str → Option Value} {base : Heap}
/-! ### is_integer, is_in, is_list -/
abbrev sIsInteger : Stmt := topS 5
theorem sc5 : FnScope ["value"] ["value"] (defScope sIsInteger) := ⟨rfl, rfl, rfl, by decide +kernel, rfl, by decide +kernel, by decide +kernel⟩
def spIsInteger : Sp := fun vs H Q _ => ∃ i : Int, vs = [.int i] ∧ Q (.bl true) H
theorem ok_is_integer {f : Addr} {fd : FuncData} (F : Fun K "is_integer" "is_integer" sIsInteger f fd) (S : Std mg) : FnOk P w K mg base CX0 1 f fd ["value"] spIsInteger := by
  refine F.ok sc5 (fun vs H Q E h => ?_) (fun cdv A outer s H vs Q E hr h => ?_)
  · obtain ⟨i, rfl, _⟩ := h
    rfl
  · obtain ⟨i, rfl, q⟩ := h
    refine ⟨_, pss_one (ps_ret (pe_and (pe_callB call_isi (by rfl) S.isi (by decide +kernel) (pa_cons (pv 0) (pa_cons (pe_bltn (v := .ty "int") (by rfl) S.int (by decide +kernel) rfl) pa_nil)))
      (pe_one (pe_not (pe_callB call_isi (by rfl) S.isi (by decide +kernel) (pa_cons (pv 0) (pa_cons (pe_bltn (v := .ty "bool") (by rfl) S.bool (by decide +kernel) rfl) pa_nil))))))), ?_⟩
    refine ⟨_, rfl, _, _, _, _, true, rfl, .ty "int", ty_int i, kit_ty (by decide +kernel), true, rfl, iteT ?_⟩
    exact ⟨_, rfl, _, _, _, _, false, rfl, .ty "bool", ty_int i, kit_ty (by decide +kernel), false, rfl, q⟩
abbrev sIsIn : Stmt := topS 6
theorem sc6 : FnScope ["value", "least", "most"] ["value", "least", "most"] (defScope sIsIn) := ⟨rfl, rfl, rfl, by decide +kernel, rfl, by decide +kernel, by decide +kernel⟩
def spIsIn : Sp := fun vs H Q _ => ∃ i a b : Int, vs = [.int i, .int a, .int b] ∧ a ≤ i ∧ i ≤ b ∧ Q (.bl true) H
theorem ok_is_in {f : Addr} {fd : FuncData} (F : Fun K "is_in" "is_in" sIsIn f fd) (S : Std mg) (G : Has P w K mg base 1 "is_integer" ["value"] spIsInteger) : FnOk P w K mg base CX0 2 f fd ["value", "least", "most"] spIsIn := by
  refine F.ok sc6 (fun vs H Q E h => ?_) (fun cdv A outer s H vs Q E hr h => ?_)
  · obtain ⟨i, a, b, rfl, _⟩ := h
    rfl
  · obtain ⟨i, a, b, rfl, h1, h2, q⟩ := h
    refine ⟨_, pss_one (ps_ret (pe_and (pe_has G hr (pa_cons (pv 0) pa_nil)) (pe_one (pe_chain op_le op_le (pv 1) (pv 0) (pv 2))))), ?_⟩
    refine ⟨_, rfl, i, rfl, true, rfl, iteT ?_⟩
    refine ⟨_, rfl, _, rfl, a, i, rfl, rfl, decide (a ≤ i), rfl, ?_⟩
    rw [decide_eq_true h1]
    refine iteT ⟨_, rfl, i, b, rfl, rfl, ?_⟩
    show Q (.bl (decide (i ≤ b))) H
    rw [decide_eq_true h2]
    exact q
abbrev sIsList : Stmt := topS 7
theorem sc7 : FnScope ["value", "least", "most"] ["value", "least", "most"] (defScope sIsList) := ⟨rfl, rfl, rfl, by decide +kernel, rfl, by decide +kernel, by decide +kernel⟩
def spIsList (K : PySem.W.Frag) : Sp := fun vs H Q _ => ∃ (v : V) (xs : List V) (a b : Int), vs = [v, .int a, .int b] ∧ IsT K H v xs ∧ a ≤ xs.length ∧ (xs.length : Int) ≤ b ∧ Q (.bl true) H
theorem ok_is_list {f : Addr} {fd : FuncData} (F : Fun K "is_list" "is_list" sIsList f fd) (S : Std mg) : FnOk P w K mg base CX0 1 f fd ["value", "least", "most"] (spIsList K) := by
  refine F.ok sc7 (fun vs H Q E h => ?_) (fun cdv A outer s H vs Q E hr h => ?_)
  · obtain ⟨i, xs, a, b, rfl, _⟩ := h
    rfl
  · obtain ⟨v, xs, a, b, rfl, ⟨l, rfl, hs⟩, h1, h2, q⟩ := h
    refine ⟨_, pss_one (ps_ret (pe_and (pe_callB call_isi (by rfl) S.isi (by decide +kernel) (pa_cons (pv 0) (pa_cons (pe_bltn (v := .ty "tuple") (by rfl) S.tup (by decide +kernel) rfl) pa_nil)))
      (pe_one (pe_chain op_le op_le (pv 1) (pe_callB call_len_seq (by rfl) S.len PySem.boot_len (pa_cons (pv 0) pa_nil)) (pv 2))))), ?_⟩
    refine ⟨_, rfl, _, _, _, _, true, rfl, .ty "tuple", ty_tup hs, kit_ty (by decide +kernel), true, rfl, iteT ?_⟩
    refine ⟨_, rfl, _, rfl, l, xs, rfl, .inr hs, a, _, rfl, rfl, decide (a ≤ (xs.length : Int)), rfl, ?_⟩
    rw [decide_eq_true h1]
    refine iteT ⟨_, rfl, _, b, rfl, rfl, ?_⟩
    show Q (.bl (decide ((xs.length : Int) ≤ b))) H
    rw [decide_eq_true h2]
    exact q
end
end Tr

/-! Comprehensions that change nothing but what they make. -/
namespace Tr
open PySem PySem.Spec PyProof.Rows L2
theorem wipe_one (σ : L2.St) (j : Nat) (x : Option V) : wipe ((wipe σ [j]).set j x) [j] = wipe σ [j] := by
  simp [wipe, List.set_set]
section
variable {K : PySem.W.Frag} {a : Addr} {xs : List V} {tt : TT} {te : TE} {j : Nat} {σ : L2.St} {H1 : Hp} {D : Addr} {Qd : Hp → Prop}
/-- what stands while such a block runs -/
def LcP (H1 : Hp) (D : Addr) (R : Nat → Hp → V → Prop) (keep : Nat → Bool) (i : Nat) (H : Hp) : Prop :=
  Same H1 H ∧ ∃ acc, H D = some (.lst acc) ∧ Paired (fun y i => R i H y) acc ((List.range i).filter keep)
theorem lcp_start {R : Nat → Hp → V → Prop} {keep : Nat → Bool} (hD : H1 D = none) : LcP H1 D R keep 0 (upd H1 D (.lst [])) := ⟨same_new hD, [], upd_same, .nil⟩
theorem lcp_skip {R : Nat → Hp → V → Prop} {keep : Nat → Bool} (mono : ∀ i H H' y, Tst H H' → R i H y → R i H' y) {i : Nat} {H H3 : Hp} (h : LcP H1 D R keep i H) (s : Same H H3) (k : keep i = false) : LcP H1 D R keep (i + 1) H3 := by
  obtain ⟨s1, acc, e, p⟩ := h
  refine ⟨s1.trans s, acc, s _ _ e, ?_⟩
  rw [List.range_succ, List.filter_append, List.filter_cons_of_neg (by rw [k]; exact Bool.false_ne_true), List.filter_nil, List.append_nil]
  exact Paired.mapP p fun _ _ q => mono _ _ _ _ (.of s) q
theorem lcp_keep {R : Nat → Hp → V → Prop} {keep : Nat → Bool} (mono : ∀ i H H' y, Tst H H' → R i H y → R i H' y) (hD : H1 D = none) {i : Nat} {H H4 : Hp} {y : V} (hi : i < sizeLine) (h : LcP H1 D R keep i H) (s : Same H H4) (k : keep i = true) (r : R i H4 y) :
    ∃ acc, H4 D = some (.lst acc) ∧ acc.length < sizeLine ∧ LcP H1 D R keep (i + 1) (upd H4 D (.lst (acc ++ [y]))) := by
  obtain ⟨s1, acc, e, p⟩ := h
  have e4 := s _ _ e
  have t : Tst H4 (upd H4 D (.lst (acc ++ [y]))) := .lst e4
  refine ⟨acc, e4, ?_, fun b o q => ?_, acc ++ [y], upd_same, ?_⟩
  · have := List.length_filter_le keep (List.range i)
    rw [List.length_range] at this
    rw [Paired.length p]
    omega
  · rw [upd_ne (ne_of_none q hD)]
    exact s _ _ (s1 _ _ q)
  · rw [List.range_succ, List.filter_append, List.filter_cons_of_pos k, List.filter_nil]
    exact Paired.snoc (Paired.mapP p fun _ _ q => mono _ _ _ _ t (mono _ _ _ _ (.of s) q)) (mono _ _ _ _ t r)
def LcTurn (tt : TT) (te : TE) (H1 : Hp) (R : Nat → Hp → V → Prop) (keep : Nat → Bool) (i : Nat) (σ' : L2.St) : Prop :=
  ∀ H, Same H1 H → ∀ (Qf : Hp → Prop) (Qt : V → Hp → Prop), (keep i = false → ∀ H3, Same H H3 → Qf H3) → (keep i = true → ∀ y H4, Same H H4 → R i H4 y → Qt y H4) → tt σ' H fun b H3 => if b = true then te σ' H3 Qt else Qf H3
theorem lcm_tup (R : Nat → Hp → V → Prop) (keep : Nat → Bool) (mono : ∀ i H H' y, Tst H H' → R i H y → R i H' y) (hD : H1 D = none) (hs : SqT K H1 a xs) (hn : xs.length ≤ sizeLine)
    (turn : ∀ i x, xs[i]? = some x → LcTurn tt te H1 R keep i ((wipe σ [j]).set j (some x))) (done : ∀ H ys, Same H1 H → H D = some (.lst ys) → Paired (fun y i => R i H y) ys ((List.range xs.length).filter keep) → Qd H) :
    ∃ W : Nat → Nat → Hp → Prop, (∃ m, W 0 m (upd H1 D (.lst []))) ∧ ∀ i m H, W i m H →
      ((Itt K a).stop i H ∧ Qd H) ∨ ((Itt K a).go i H ∧ ∃ Nx : Hp → Prop, (∀ H', Nx H' → ∃ m', m' < m ∧ W (i + 1) m' H') ∧ ∀ x H', (Itt K a).yld i H x H' → gName j x (wipe σ [j]) H' fun σ2 H2 => wipe σ2 [j] = wipe σ [j] ∧ tt σ2 H2 fun b H3 =>
        if b = true then te σ2 H3 fun y H4 => ∃ acc, H4 D = some (.lst acc) ∧ acc.length < sizeLine ∧ Nx (upd H4 D (.lst (acc ++ [y]))) else Nx H3) := by
  refine lc_tup (xs := xs) (LcP H1 D R keep) (lcp_start hD) (fun i H _ p => same_sqT p.1 hs) (fun i x H hx p => ⟨wipe_one _ _ _, turn i x hx H p.1 _ _ (fun k H3 s => lcp_skip mono p s k) fun k y H4 s r => lcp_keep mono hD ?_ p s k r⟩) fun H p => ?_
  · exact Nat.lt_of_lt_of_le (List.getElem?_eq_some_iff.mp hx).1 hn
  · obtain ⟨s, acc, e, q⟩ := p
    exact done H acc s e q
theorem lcm_list (R : Nat → Hp → V → Prop) (keep : Nat → Bool) (mono : ∀ i H H' y, Tst H H' → R i H y → R i H' y) (hD : H1 D = none) (hs : SqL K H1 a xs) (hn : xs.length ≤ sizeLine)
    (turn : ∀ i x, xs[i]? = some x → LcTurn tt te H1 R keep i ((wipe σ [j]).set j (some x))) (done : ∀ H ys, Same H1 H → H D = some (.lst ys) → Paired (fun y i => R i H y) ys ((List.range xs.length).filter keep) → Qd H) :
    ∃ W : Nat → Nat → Hp → Prop, (∃ m, W 0 m (upd H1 D (.lst []))) ∧ ∀ i m H, W i m H →
      ((Itl K a).stop i H ∧ Qd H) ∨ ((Itl K a).go i H ∧ ∃ Nx : Hp → Prop, (∀ H', Nx H' → ∃ m', m' < m ∧ W (i + 1) m' H') ∧ ∀ x H', (Itl K a).yld i H x H' → gName j x (wipe σ [j]) H' fun σ2 H2 => wipe σ2 [j] = wipe σ [j] ∧ tt σ2 H2 fun b H3 =>
        if b = true then te σ2 H3 fun y H4 => ∃ acc, H4 D = some (.lst acc) ∧ acc.length < sizeLine ∧ Nx (upd H4 D (.lst (acc ++ [y]))) else Nx H3) := by
  refine lc_list (xs := xs) (LcP H1 D R keep) (lcp_start hD) (fun i H _ p => p.1.seq hs) (fun i x H hx p => ⟨wipe_one _ _ _, turn i x hx H p.1 _ _ (fun k H3 s => lcp_skip mono p s k) fun k y H4 s r => lcp_keep mono hD ?_ p s k r⟩) fun H p => ?_
  · exact Nat.lt_of_lt_of_le (List.getElem?_eq_some_iff.mp hx).1 hn
  · obtain ⟨s, acc, e, q⟩ := p
    exact done H acc s e q
theorem lcm_range {lo : Int} {n : Nat} (R : Nat → Hp → V → Prop) (keep : Nat → Bool) (mono : ∀ i H H' y, Tst H H' → R i H y → R i H' y) (hD : H1 D = none) (hn : n ≤ sizeLine)
    (turn : ∀ i, i < n → LcTurn tt te H1 R keep i ((wipe σ [j]).set j (some (.int (lo + i))))) (done : ∀ H ys, Same H1 H → H D = some (.lst ys) → Paired (fun y i => R i H y) ys ((List.range n).filter keep) → Qd H) :
    ∃ W : Nat → Nat → Hp → Prop, (∃ m, W 0 m (upd H1 D (.lst []))) ∧ ∀ i m H, W i m H →
      ((Itr lo n).stop i H ∧ Qd H) ∨ ((Itr lo n).go i H ∧ ∃ Nx : Hp → Prop, (∀ H', Nx H' → ∃ m', m' < m ∧ W (i + 1) m' H') ∧ ∀ x H', (Itr lo n).yld i H x H' → gName j x (wipe σ [j]) H' fun σ2 H2 => wipe σ2 [j] = wipe σ [j] ∧ tt σ2 H2 fun b H3 =>
        if b = true then te σ2 H3 fun y H4 => ∃ acc, H4 D = some (.lst acc) ∧ acc.length < sizeLine ∧ Nx (upd H4 D (.lst (acc ++ [y]))) else Nx H3) := by
  refine lc_range (LcP H1 D R keep) (lcp_start hD) (fun i H hi p => ⟨wipe_one _ _ _, turn i hi H p.1 _ _ (fun k H3 s => lcp_skip mono p s k) fun k y H4 s r => lcp_keep mono hD (Nat.lt_of_lt_of_le hi hn) p s k r⟩) fun H p => ?_
  obtain ⟨s, acc, e, q⟩ := p
  exact done H acc s e q
end
/-! ### rules whose readings name K -/
def rTupOf (K : PySem.W.Frag) : List V → Hp → VK → Prop := fun xs H Q => ∃ p ys, xs = [.ref p] ∧ ((SqL K H p ys ∧ ∀ l, H l = none → Q (.ref l) (upd H l (.tup ys))) ∨ (SqT K H p ys ∧ Q (.ref p) H))
def rLenOf (K : PySem.W.Frag) : List V → Hp → VK → Prop := fun xs H Q => ∃ p ys, xs = [.ref p] ∧ (SqL K H p ys ∨ SqT K H p ys) ∧ Q (.int ys.length) H
def rLstOf (K : PySem.W.Frag) : List V → Hp → VK → Prop := fun xs H Q => ∃ p ys, xs = [.ref p] ∧ (SqL K H p ys ∨ SqT K H p ys) ∧ ∀ l, H l = none → Q (.ref l) (upd H l (.lst ys))
section
variable {X : Cx} {e o : Expr} {t t2 : TE} {ta : TA} {p pos : Pos}
theorem pe_tupOf (K : PySem.W.Frag) (hm : X.mg "tuple" = none) (ha : PA X [e] ta) (hK : X.K = K := by rfl) (hg : Gl X "tuple" := by rfl) (one : starEach [e] X.env = (false, eval e X.env) :: starEach [] X.env := by rfl) (hpl : (backTo pos (starEach [] X.env)).any (·.1) = false := by rfl) : PE X (.Call (.Name "tuple" p) [e] [] pos) (tCB (rTupOf K) ta) := by
  subst hK
  exact pe_callTy (r := rTupOf X.K) call_tuple_of hg hm (by decide +kernel) ha (he := one) (hpl := hpl)
theorem pe_lenOf (K : PySem.W.Frag) (hm : X.mg "len" = none) (ha : PA X [e] ta) (hK : X.K = K := by rfl) (hg : Gl X "len" := by rfl) (one : starEach [e] X.env = (false, eval e X.env) :: starEach [] X.env := by rfl) (hpl : (backTo pos (starEach [] X.env)).any (·.1) = false := by rfl) : PE X (.Call (.Name "len" p) [e] [] pos) (tCB (rLenOf K) ta) := by
  subst hK
  exact pe_callB (r := rLenOf X.K) call_len_seq hg hm PySem.boot_len ha (he := one) (hpl := hpl)
theorem pe_lstOf (K : PySem.W.Frag) (hm : X.mg "list" = none) (ha : PA X [e] ta) (hK : X.K = K := by rfl) (hg : Gl X "list" := by rfl) (one : starEach [e] X.env = (false, eval e X.env) :: starEach [] X.env := by rfl) (hpl : (backTo pos (starEach [] X.env)).any (·.1) = false := by rfl) : PE X (.Call (.Name "list" p) [e] [] pos) (tCB (rLstOf K) ta) := by
  subst hK
  exact pe_callTy (r := rLstOf X.K) call_list_of hg hm (by decide +kernel) ha (he := one) (hpl := hpl)
theorem pe_setOf (K : PySem.W.Frag) (w : World) (hc : X.calm = true) (hm : X.mg "set" = none) (ha : PA X [e] ta) (hK : X.K = K := by rfl) (hw : X.w = w := by rfl) (hg : Gl X "set" := by rfl) (one : starEach [e] X.env = (false, eval e X.env) :: starEach [] X.env := by rfl) (hpl : (backTo pos (starEach [] X.env)).any (·.1) = false := by rfl) : PE X (.Call (.Name "set" p) [e] [] pos) (tCB (rSetI K w) ta) := by
  subst hK
  subst hw
  exact pe_callTy (r := rSetI X.K X.w) (cr_setI hc) hg hm (by decide +kernel) ha (he := one) (hpl := hpl)
theorem pe_srtSet (w : World) (hc : X.calm = true) (hm : X.mg "sorted" = none) (ha : PA X [e] ta) (hw : X.w = w := by rfl) (hg : Gl X "sorted" := by rfl) (one : starEach [e] X.env = (false, eval e X.env) :: starEach [] X.env := by rfl) (hpl : (backTo pos (starEach [] X.env)).any (·.1) = false := by rfl) : PE X (.Call (.Name "sorted" p) [e] [] pos) (tCB (rSortedSet w) ta) := by
  subst hw
  exact pe_callB (r := rSortedSet X.w) (cr_sortedSet hc) hg hm (by decide +kernel) ha (he := one) (hpl := hpl)
theorem pe_ixT (K : PySem.W.Frag) (ho : PE X o t) (he : PE X e t2) (hK : X.K = K := by rfl) (hp : PlainIx e := by exact fun _ _ => rfl) : PE X (.Subscript o e pos) (tOp (rIxT K) t t2) := by
  subst hK
  exact pe_ix ix_tup ho he hp
theorem pe_ixL (K : PySem.W.Frag) (ho : PE X o t) (he : PE X e t2) (hK : X.K = K := by rfl) (hp : PlainIx e := by exact fun _ _ => rfl) : PE X (.Subscript o e pos) (tOp (rIxL K) t t2) := by
  subst hK
  exact pe_ix ix_list ho he hp
end
/-- all kept -/
theorem filter_all (n : Nat) : (List.range n).filter (fun _ => true) = List.range n := by simp
theorem paired_mapr {α β γ : Type} {R : α → γ → Prop} {f : β → γ} : ∀ {xs : List α} {ys : List β}, Paired (fun x y => R x (f y)) xs ys → Paired R xs (ys.map f)
  | _, _, .nil => .nil
  | _, _, .cons r t => .cons r (paired_mapr t)
theorem paired_mem {α β : Type} {R R' : α → β → Prop} : ∀ {xs : List α} {ys : List β}, Paired R xs ys → (∀ x y, y ∈ ys → R x y → R' x y) → Paired R' xs ys
  | _, _, .nil, _ => .nil
  | _, _, .cons r t, h => .cons (h _ _ List.mem_cons_self r) (paired_mem t fun x y hy => h x y (List.mem_cons_of_mem _ hy))
theorem tyes {σ' : L2.St} {H : Hp} {A B : Hp → Prop} (h : A H) : tYes σ' H fun b H3 => if b = true then A H3 else B H3 := by
  show if true = true then A H else B H
  exact iteT h
theorem lct_yes {te : TE} {H1 : Hp} {R : Nat → Hp → V → Prop} {i : Nat} {σ' : L2.St} (h : ∀ H, Same H1 H → ∀ Qt : V → Hp → Prop, (∀ y H4, Same H H4 → R i H4 y → Qt y H4) → te σ' H Qt) : LcTurn tYes te H1 R (fun _ => true) i σ' :=
  fun H s Qf Qt _ k => by
    show if true = true then te σ' H Qt else Qf H
    exact iteT (h H s Qt (k rfl))
/-- all items are told by places -/
theorem paired_const {α β : Type} {c : α} : ∀ {xs : List α} {ys : List β}, Paired (fun x _ => x = c) xs ys → xs = List.replicate ys.length c
  | _, _, .nil => rfl
  | _, _, .cons r t => by rw [r, List.length_cons, List.replicate_succ, ← paired_const t]
end Tr

/-! need_web, pairs_in. -/
namespace Tr
open PySem PySem.Spec PyProof.Rows L2
theorem paired_at {β : Type} {R : V → β → Prop} : ∀ {vs : List V} {bs : List β}, Paired R vs bs → ∀ {i : Nat} {b : β}, bs[i]? = some b → ∃ v, vs[i]? = some v ∧ R v b
  | _, _, .nil, _, _, e => by simp at e
  | _, _, .cons r t, 0, _, e => by cases e; exact ⟨_, rfl, r⟩
  | _, _, .cons r t, i + 1, _, e => paired_at t (i := i) e
def nts (r : List Nat) : List Int := r.map fun n : Nat => (n : Int)
theorem nts_v (r : List Nat) : (nts r).map V.int = r.map vi := by unfold nts vi; rw [List.map_map]; rfl
theorem mem_nts {r : List Nat} {k : Int} : k ∈ nts r ↔ ∃ n ∈ r, (n : Int) = k := by unfold nts; exact List.mem_map
theorem eq_of_ltI {l m : List Int} (hl : l.Pairwise (· < ·)) (hm : m.Pairwise (· < ·)) (h : ∀ a, a ∈ l ↔ a ∈ m) : l = m := by
  have nl : l.Nodup := hl.imp fun h => Int.ne_of_lt h
  have nm : m.Nodup := hm.imp fun h => Int.ne_of_lt h
  exact List.Perm.eq_of_pairwise (le := (· ≤ ·)) (fun a b _ _ h1 h2 => Int.le_antisymm h1 h2) (hl.imp Int.le_of_lt) (hm.imp Int.le_of_lt) ((List.perm_ext_iff_of_nodup nl nm).mpr h)
theorem nts_lt {r : List Nat} (h : r.Pairwise (· < ·)) : (nts r).Pairwise (· < ·) := by
  unfold nts
  rw [List.pairwise_map]
  exact h.imp fun h => Int.ofNat_lt.mpr h
theorem self_notin {n v : Nat} {ps : List Edge} (ok : OkE n ps) : v ∉ rowOf n ps v := fun h => by
  rcases (mem_rowOf.mp h).2 with h | h <;> exact absurd (ok _ h).1 (Nat.lt_irrefl _)
theorem rowOf_length_lt {n v : Nat} {ps : List Edge} (ok : OkE n ps) (h : v < n) : (rowOf n ps v).length < n := by
  have nd : (v :: rowOf n ps v).Nodup := List.nodup_cons.mpr ⟨self_notin ok, nodup_of_lt (rowOf_sorted n ps v)⟩
  have := nd.length_le_of_subset (l₂ := List.range n) fun x hx => by
    rcases List.mem_cons.mp hx with rfl | hx
    · exact List.mem_range.mpr h
    · exact List.mem_range.mpr (mem_rowOf.mp hx).1
  rw [List.length_range, List.length_cons] at this
  exact this
theorem map_at {r : List Nat} {j : Nat} {y : V} (h : (r.map vi)[j]? = some y) : ∃ m, r[j]? = some m ∧ y = vi m := by
  rw [List.getElem?_map] at h
  cases e : r[j]? with
  | none => rw [e] at h; cases h
  | some m => rw [e] at h; exact ⟨m, rfl, (Option.some.inj h).symm⟩
section
variable {P : Program} {w : World} {K : PySem.W.Frag} {mg : Str → Option Value} {base : Heap}
abbrev sNeedWeb : Stmt := topS 10
theorem sc10 : FnScope ["web", "people", "index", "friends", "other"] ["web"] (defScope sNeedWeb) := ⟨rfl, rfl, rfl, by decide +kernel, rfl, by decide +kernel, by decide +kernel⟩
def spNeedWeb (K : PySem.W.Frag) : Sp := fun vs H Q _ => ∃ (v : V) (n : Nat) (ps : List Edge), vs = [v] ∧ TW K H v (webOf n ps) ∧ OkE n ps ∧ 1 ≤ n ∧ n ≤ 8 ∧ ∀ H', Same H H' → Q .non H'
theorem ok_need_web {f : Addr} {fd : FuncData} (F : Fun K "need_web" "need_web" sNeedWeb f fd) (S : Std mg) (GL : Has P w K mg base 1 "is_list" ["value", "least", "most"] (spIsList K)) (GI : Has P w K mg base 2 "is_in" ["value", "least", "most"] spIsIn) :
    FnOk P w K mg base CX0 3 f fd ["web"] (spNeedWeb K) := by
  have nd := sc10.nd
  obtain ⟨tp, hmp⟩ := S.mp
  refine F.ok sc10 (fun vs H Q E h => ?_) (fun cdv A outer s H vs Q E hr h => ?_)
  · obtain ⟨v, n, ps, rfl, _⟩ := h
    rfl
  · obtain ⟨v, n, ps, rfl, hw, ok, h1, h8, q⟩ := h
    have hr1 := hr.mono (show 1 ≤ 2 by decide)
    refine ⟨_, pss_cons (ps_if (pt_not (pt_val (pe_has GL hr1 (pa_cons (pv 0) (pa_cons pe_int (pa_cons (pe_glob (v := .int 8) (by rfl) hmp ⟨_, rfl⟩) pa_nil)))))) (pss_one ps_never) pss_nil)
      (pss_cons (ps_set (i := 1) nd rfl (.inr rfl) (pe_callB call_len_seq (by rfl) S.len PySem.boot_len (pa_cons (pv 0) pa_nil)))
      (pss_cons (ps_for PassesOwn.never rfl (pi_enumT (by rfl) S.enum (pa_cons (pv 0) pa_nil)) (pg_tup rfl (pgs_cons (pg_name (i := 2) nd rfl (.inr rfl)) (pgs_cons (pg_name (i := 3) nd rfl (.inl rfl)) pgs_nil)))
        (pss_cons (ps_if (PW.pt (pw_or (pt_not (pt_val (pe_has GL hr1 (pa_cons (pv 3) (pa_cons pe_int (pa_cons (pe_op op_sub (pv 1) pe_int) pa_nil))))))
            (pw_or1 (pt_not (pt_val (pe_callB (cr_all rfl) (by rfl) S.all (by decide +kernel) (pa_cons (pe_lc (own := [("other", 4)]) (g := gName 4) (tt := tYes) rfl nd (pi_tup (pv 3)) (blkOk_by (own := [("other", 4)]) (N := ["web", "people", "index", "friends", "other"]) (sc := defScope sNeedWeb) (by decide +kernel))
              (fun _ _ _ _ _ => pg_name (i := 4) nd rfl (.inl rfl)) (fun _ _ _ _ _ => pts_nil) (fun _ _ _ _ _ => pe_has GI hr (pa_cons (pv 4) (pa_cons pe_int (pa_cons (pe_op op_sub (pv 1) pe_int) pa_nil))))) pa_nil))))))) (pss_one ps_never) pss_nil)
        (pss_one (ps_if (PW.pt (pw_or (pt_cmpR (op_neD hr.units) (pe_callTy call_list_of (by rfl) S.lst (by decide +kernel) (pa_cons (pv 3) pa_nil))
            (pe_callB (cr_sortedSet rfl) (by rfl) S.srt (by decide +kernel) (pa_cons (pe_callTy (cr_setI rfl) (by rfl) S.set (by decide +kernel) (pa_cons (pv 3) pa_nil)) pa_nil)) (nomark _))
            (pw_or1 (pt_cmpR op_in_seq (pv 2) (pv 3) rfl)))) (pss_one ps_never) pss_nil))))
      (pss_one (ps_for PassesOwn.never rfl (pi_enumT (by rfl) S.enum (pa_cons (pv 0) pa_nil)) (pg_tup rfl (pgs_cons (pg_name (i := 2) nd rfl (.inr rfl)) (pgs_cons (pg_name (i := 3) nd rfl (.inl rfl)) pgs_nil)))
        (pss_one (ps_if (pt_val (pe_callB (cr_any rfl) (by rfl) S.any (by decide +kernel) (pa_cons (pe_lc (own := [("other", 4)]) (g := gName 4) (tt := tYes) rfl nd (pi_tup (pv 3)) (blkOk_by (own := [("other", 4)]) (N := ["web", "people", "index", "friends", "other"]) (sc := defScope sNeedWeb) (by decide +kernel))
              (fun _ _ _ _ _ => pg_name (i := 4) nd rfl (.inl rfl)) (fun _ _ _ _ _ => pts_nil) (fun _ _ _ _ _ => pe_cmpR (r := rIn K true) op_notIn_seq (pv 2) (pe_ix (r := rIxT K) ix_tup (pv 0) (pv 4) (fun _ _ => rfl)) rfl)) pa_nil))) (pss_one ps_never) pss_nil)))))), ?_⟩
    obtain ⟨a, vs, rfl, hW, hP⟩ := hw
    have hlen : vs.length = n := (Paired.length hP).trans (webOf_length n ps)
    refine ⟨_, rfl, _, vs, 1, 8, rfl, ⟨a, rfl, hW⟩, by omega, by omega, true, rfl, iteF ?_⟩
    refine ⟨_, rfl, a, vs, rfl, .inr hW, ?_⟩
    rw [hlen]
    have row : ∀ {i : Nat} {x : V}, vs[i]? = some x → i < n ∧ ∃ l, x = .ref l ∧ SqT K H l ((rowOf n ps i).map vi) := fun {i x} hx => by
      have hi : i < n := by rw [← hlen]; exact (List.getElem?_eq_some_iff.mp hx).1
      obtain ⟨b, hb, l, e, hl⟩ := L2.paired_get hP hx
      rw [webOf_get ps hi] at hb
      cases hb
      exact ⟨hi, l, e, hl⟩
    refine ⟨_, rfl, a, vs, rfl, hW, for_enumT (K := K) (fun i σ H' => (∃ y2 y3, σ = [some (.ref a), some (vi n), y2, y3, none]) ∧ Same H H') ⟨⟨_, _, rfl⟩, .refl H⟩ (fun i σ H' _ p => same_sqT p.2 hW) ?_ ?_⟩
    · rintro i x T σ H' hx ⟨⟨y2, y3, rfl⟩, sm⟩ hT
      obtain ⟨hi, l, rfl, hl⟩ := row hx
      have sm1 := sm.trans (same_new (o := .tup [.int (i : Nat), .ref l]) hT)
      have hl1 := same_sqT sm1 hl
      have hlt := rowOf_length_lt ok hi
      refine ⟨T, [vi i, .ref l], rfl, .inl (.inl upd_same), rfl, vi i, [.ref l], rfl, .ref l, [], rfl, rfl, ?_⟩
      refine ⟨_, rfl, _, rfl, _, _, rfl, rfl, _, _, 0, _, rfl, ⟨l, rfl, hl1⟩, by omega, by rw [List.length_map]; omega, true, rfl, iteF ?_⟩
      refine ⟨_, rfl, l, rfl, ⟨_, hl1⟩, fun D hD => lcm_tup (K := K) (fun _ _ y => y = .bl true) (fun _ => true) (fun _ _ _ _ _ z => z) hD hl1 (by rw [List.length_map]; exact Nat.le_of_lt (small1000 (by omega))) ?_ ?_⟩
      · intro j y hy
        obtain ⟨m, hm, rfl⟩ := map_at hy
        have hmn := (mem_rowOf.mp (List.mem_of_getElem? hm)).1
        exact lct_yes fun H2 s2 Qt q2 => ⟨_, rfl, _, rfl, _, _, rfl, rfl, (m : Int), 0, (n : Int) - 1, rfl, by omega, by omega, q2 _ _ (.refl _) rfl⟩
      · intro H2 ys s2 hys pys
        rw [filter_all] at pys
        have e := paired_const pys
        have sm2 := sm1.trans s2
        have hl2 := same_sqT sm2 hl
        refine ⟨D, List.replicate ys.length true, rfl, .inl (.inl ?_), true, ?_, iteF ?_⟩
        · rw [hys, List.map_replicate, e, List.length_replicate]
        · rw [List.all_replicate]; simp
        · refine ⟨_, rfl, l, _, rfl, .inr hl2, fun p hp => ?_⟩
          have s3 : Same H2 (upd H2 p (.lst ((rowOf n ps i).map vi))) := same_new hp
          refine ⟨_, rfl, l, nts (rowOf n ps i), rfl, .inr (by rw [nts_v]; exact same_sqT (sm2.trans s3) hl), by unfold nts; rw [List.length_map]; omega, fun c cn hc hcn => ?_⟩
          refine ⟨c, _, cn, rfl, upd_same, ?_, fun ns z hns hmem _ hz => ?_⟩
          · unfold nts at hcn
            rw [List.length_map] at hcn
            omega
          · have ens : ns = nts (rowOf n ps i) := eq_of_ltI hns (nts_lt (rowOf_sorted n ps i)) fun k => by rw [hmem, decide_eq_true_eq]
            subst ens
            have s4 := same_new (o := SetO w c (fun j => decide (j ∈ nts (rowOf n ps i))) cn) hc
            have s5 := same_new (o := .lst ((nts (rowOf n ps i)).map V.int)) hz
            have sa := sm2.trans (s3.trans (s4.trans s5))
            have e1 : Dp K (upd (upd (upd H2 p (.lst ((rowOf n ps i).map vi))) c (SetO w c (fun j => decide (j ∈ nts (rowOf n ps i))) cn)) z (.lst ((nts (rowOf n ps i)).map V.int))) (.ref p) (.list ((rowOf n ps i).map dN)) :=
              .lst (.inl (.inl ((s4.trans s5) _ _ upd_same))) (dpAll_ints _)
            have e2 : Dp K (upd (upd (upd H2 p (.lst ((rowOf n ps i).map vi))) c (SetO w c (fun j => decide (j ∈ nts (rowOf n ps i))) cn)) z (.lst ((nts (rowOf n ps i)).map V.int))) (.ref z) (.list ((rowOf n ps i).map dN)) :=
              .lst (.inl (.inl upd_same)) (by rw [nts_v]; exact dpAll_ints _)
            have sh : SeqAt.shaped (.list ((rowOf n ps i).map dN)) = true := shaped_list (k := 0) lay_dN (fun n => by rw [depth_dN]; exact Nat.le_refl _) (by decide) _
            refine ⟨_, _, e1, e2, sh, sh, _, rfl, ?_⟩
            rw [eqv_dNs, decide_eq_true rfl]
            refine iteF ?_
            refine ⟨_, rfl, _, rfl, l, _, rfl, .inr (same_sqT sa hl), rfl, flat_vi _, false, ?_, iteF ?_⟩
            · show V.bl (inV (vi i) _) = _
              rw [inV_vi, decide_eq_false (self_notin ok)]
            · exact ⟨⟨_, _, rfl⟩, sa⟩
    · rintro σ H' ⟨⟨y2, y3, rfl⟩, sm⟩
      refine ⟨_, rfl, a, vs, rfl, same_sqT sm hW, for_enumT (K := K) (fun i σ H' => (∃ y2 y3, σ = [some (.ref a), some (vi n), y2, y3, none]) ∧ Same H H') ⟨⟨_, _, rfl⟩, sm⟩ (fun i σ H' _ p => same_sqT p.2 hW) ?_ ?_⟩
      · rintro i x T σ H' hx ⟨⟨y2, y3, rfl⟩, sm⟩ hT
        obtain ⟨hi, l, rfl, hl⟩ := row hx
        have sm1 := sm.trans (same_new (o := .tup [.int (i : Nat), .ref l]) hT)
        have hl1 := same_sqT sm1 hl
        have hlt := rowOf_length_lt ok hi
        refine ⟨T, [vi i, .ref l], rfl, .inl (.inl upd_same), rfl, vi i, [.ref l], rfl, .ref l, [], rfl, rfl, ?_⟩
        refine ⟨_, rfl, l, rfl, ⟨_, hl1⟩, fun D hD => lcm_tup (K := K) (fun _ _ y => y = .bl false) (fun _ => true) (fun _ _ _ _ _ z => z) hD hl1 (by rw [List.length_map]; exact Nat.le_of_lt (small1000 (by omega))) ?_ ?_⟩
        · intro j y hy
          obtain ⟨m, hm, rfl⟩ := map_at hy
          have hmr := List.mem_of_getElem? hm
          have hmn := (mem_rowOf.mp hmr).1
          refine lct_yes fun H2 s2 Qt q2 => ?_
          obtain ⟨z, hz, l2, rfl, hl2⟩ := paired_at hP (webOf_get ps hmn)
          have sm2 := sm1.trans s2
          refine ⟨_, rfl, _, rfl, _, rfl, a, _, _, _, rfl, rfl, same_sqT sm2 hW, atI_nat hz, l2, _, rfl, .inr (same_sqT sm2 hl2), rfl, flat_vi _, ?_⟩
          show Qt (V.bl (!inV (vi i) _)) _
          rw [inV_vi, decide_eq_true (mem_rowOf.mpr ⟨hi, ((mem_rowOf.mp hmr).2).symm⟩)]
          exact q2 _ _ (.refl _) rfl
        · intro H2 ys s2 hys pys
          rw [filter_all] at pys
          have e := paired_const pys
          refine ⟨D, List.replicate ys.length false, rfl, .inl (.inl ?_), false, ?_, iteF ?_⟩
          · rw [hys, List.map_replicate, e, List.length_replicate]
          · rw [List.any_replicate]; simp
          · exact ⟨⟨_, _, rfl⟩, sm1.trans s2⟩
      · rintro σ H' ⟨_, sm⟩
        exact q _ sm
end
end Tr

/-! pairs_in, web_by. -/
namespace Tr
open PySem PySem.Spec PyProof.Rows L2
theorem mem_take_filter {n i : Nat} {r : List Nat} {j m : Nat} (h : r[j]? = some m) : ((r.take (j + 1)).filter fun b => decide (i < b)).map (fun b => (i, b)) = ((r.take j).filter fun b => decide (i < b)).map (fun b => (i, b)) ++ (if i < m then [(i, m)] else []) := by
  rw [List.take_add_one, h, List.filter_append, List.map_append]
  congr 1
  by_cases c : i < m <;> simp [c]
section
variable {P : Program} {w : World} {K : PySem.W.Frag} {mg : Str → Option Value} {base : Heap}
abbrev sPairsIn : Stmt := topS 11
theorem sc11 : FnScope ["web", "found", "one", "other"] ["web"] (defScope sPairsIn) := ⟨rfl, rfl, rfl, by decide +kernel, rfl, by decide +kernel, by decide +kernel⟩
def spPairsIn (K : PySem.W.Frag) : Sp := fun vs H Q _ => ∃ (v : V) (n : Nat) (ps : List Edge), vs = [v] ∧ TW K H v (webOf n ps) ∧ n ≤ 8 ∧
  ∀ H' p xs, Same H H' → H p = none → H' p = some (.lst xs) → Paired (TP K H') xs (pairsOf (webOf n ps)) → Q (.ref p) H'
theorem ok_pairs_in {f : Addr} {fd : FuncData} (F : Fun K "pairs_in" "pairs_in" sPairsIn f fd) (S : Std mg) : FnOk P w K mg base CX0 1 f fd ["web"] (spPairsIn K) := by
  have nd := sc11.nd
  refine F.ok sc11 (fun vs H Q E h => ?_) (fun cdv A outer s H vs Q E hr h => ?_)
  · obtain ⟨v, n, ps, rfl, _⟩ := h
    rfl
  · obtain ⟨v, n, ps, rfl, ⟨a, vs, rfl, hW, hP⟩, h8, q⟩ := h
    refine ⟨_, pss_cons (ps_set (i := 1) nd rfl (.inl rfl) (pe_lst pa_nil))
      (pss_cons (ps_for PassesOwn.never rfl (pi_range1 (by rfl) S.rng (pa_cons (pe_callB call_len_seq (by rfl) S.len PySem.boot_len (pa_cons (pv 0) pa_nil)) pa_nil)) (pg_name (i := 2) nd rfl (.inl rfl))
        (pss_one (ps_for PassesOwn.never rfl (pi_tup (pe_ix ix_tup (pv 0) (pv 2) (fun _ _ => rfl))) (pg_name (i := 3) nd rfl (.inl rfl))
          (pss_one (ps_if (pt_cmpR op_lt (pv 2) (pv 3) (nomark _))
            (pss_one (ps_expr (pe_bm PySem.F.plainAttrs_list PySem.F.slot_list_append PySem.F.type_list_append mt_append (pv 1) (pa_cons (pe_tup (pa_cons (pv 2) (pa_cons (pv 3) pa_nil))) pa_nil)))) pss_nil)))))
      (pss_one (ps_ret (pv 1)))), ?_⟩
    have hlen : vs.length = n := (Paired.length hP).trans (webOf_length n ps)
    refine ⟨Nat.zero_le _, fun p np => ?_⟩
    refine ⟨_, rfl, a, vs, rfl, .inr (same_sqT (same_new np) hW), ?_⟩
    rw [hlen]
    refine ⟨_, rfl, by show -(2 ^ 62 : Int) ≤ n; omega, by show (n : Int) < 2 ^ 62; omega, for_range (n := n) (fun i σ H' => (∃ y2 y3, σ = [some (.ref a), some (.ref p), y2, y3]) ∧ Same H H' ∧ ∃ xs, H' p = some (.lst xs) ∧ xs.length ≤ 8 * i ∧ Paired (TP K H') xs ((List.range i).flatMap (pairsAt (webOf n ps))))
      ⟨⟨_, _, rfl⟩, same_new np, [], upd_same, Nat.zero_le _, .nil⟩ ?_ ?_⟩
    · rintro i σ H' hi ⟨⟨y2, y3, rfl⟩, sm, xs, hp, hx, pp⟩
      obtain ⟨y, hy, l, rfl, hl⟩ := paired_at hP (webOf_get ps hi)
      have e0 : (0 : Int) + (i : Int) = (i : Int) := by omega
      rw [e0]
      have hr8 : (rowOf n ps i).length ≤ 8 := Nat.le_trans (rowOf_length_le n ps i) h8
      refine ⟨_, rfl, _, rfl, a, _, _, _, rfl, rfl, same_sqT sm hW, atI_nat hy, l, rfl, ⟨_, same_sqT sm hl⟩, for_tup (K := K) (fun j σ H' => (∃ y3, σ = [some (.ref a), some (.ref p), some (vi i), y3]) ∧ Same H H' ∧ ∃ xs, H' p = some (.lst xs) ∧ xs.length ≤ 8 * i + j ∧ Paired (TP K H') xs ((List.range i).flatMap (pairsAt (webOf n ps)) ++ (((rowOf n ps i).take j).filter fun b => decide (i < b)).map fun b => (i, b)))
        ⟨⟨_, rfl⟩, sm, xs, hp, hx, by rw [List.take_zero, List.filter_nil, List.map_nil, List.append_nil]; exact pp⟩ (fun j σ H' _ z => same_sqT z.2.1 hl) ?_ ?_⟩
      · rintro j y σ H' hj ⟨⟨y3, rfl⟩, sm, xs, hp, hx, pp⟩
        obtain ⟨m, hm, rfl⟩ := map_at hj
        have hjr := (List.getElem?_eq_some_iff.mp hm).1
        refine ⟨_, rfl, _, rfl, _, _, rfl, rfl, _, rfl, ite2 (fun c => ?_) (fun c => ?_)⟩
        · have c := of_decide_eq_true c
          have c' : i < m := by omega
          refine ⟨_, rfl, .inl ⟨rfl, _, .inl (.inl hp)⟩, _, rfl, _, rfl, by show 2 ≤ sizeLine; decide, fun t ht => ?_⟩
          have hpt : p ≠ t := ne_of_none hp ht
          have hp1 : (upd H' t (.tup [vi i, vi m])) p = some (.lst xs) := by rw [upd_ne hpt]; exact hp
          have smt := sm.trans (same_new (o := .tup [vi i, vi m]) ht)
          have tt : Tst H' (upd (upd H' t (.tup [vi i, vi m])) p (.lst (xs ++ [.ref t]))) := (Tst.new ht).trans (.lst hp1)
          refine ⟨p, xs, .ref t, rfl, rfl, hp1, small1000 (by omega), ⟨_, rfl⟩, fun b o e => ?_, _, upd_same, ?_, ?_⟩
          · rw [upd_ne (ne_of_none e np)]
            exact smt _ _ e
          · rw [List.length_append, List.length_singleton]; omega
          · rw [mem_take_filter (n := n) hm, if_pos c', ← List.append_assoc]
            refine Paired.snoc (Paired.mapP pp fun _ _ z => z.ts tt) ⟨t, rfl, .inl (.inl ?_)⟩
            rw [upd_ne hpt.symm, upd_same]
        · have c' : ¬ i < m := fun z => c (decide_eq_true (by omega))
          refine ⟨⟨_, rfl⟩, sm, xs, hp, by omega, ?_⟩
          rw [mem_take_filter (n := n) hm, if_neg c', List.append_nil]
          exact pp
      · rintro σ H' ⟨⟨y3, rfl⟩, sm, xs, hp, hx, pp⟩
        rw [List.length_map] at hx pp
        refine ⟨⟨_, _, rfl⟩, sm, xs, hp, by omega, ?_⟩
        rw [List.range_succ, List.flatMap_append, List.flatMap_singleton]
        rw [List.take_length] at pp
        unfold pairsAt at pp ⊢
        rw [webOf_getD ps hi]
        exact pp
    · rintro σ H' ⟨⟨y2, y3, rfl⟩, sm, xs, hp, hx, pp⟩
      refine ⟨_, rfl, q _ _ xs sm np hp ?_⟩
      unfold pairsOf
      rw [webOf_length]
      exact pp
end
end Tr

/-! web_by. -/
namespace Tr
open PySem PySem.Spec PyProof.Rows L2
def nbs (ps : List Edge) (v : Nat) : List Nat := ps.flatMap fun e => (if e.1 = v then [e.2] else []) ++ (if e.2 = v then [e.1] else [])
theorem mem_nbs {ps : List Edge} {u v : Nat} : u ∈ nbs ps v ↔ (v, u) ∈ ps ∨ (u, v) ∈ ps := by
  unfold nbs
  rw [List.mem_flatMap]
  constructor
  · rintro ⟨⟨a, b⟩, he, h⟩
    rw [List.mem_append] at h
    rcases h with h | h
    · by_cases c : a = v
      · rw [if_pos c, List.mem_singleton] at h
        exact .inl (by rw [← c, h]; exact he)
      · rw [if_neg c] at h; cases h
    · by_cases c : b = v
      · rw [if_pos c, List.mem_singleton] at h
        exact .inr (by rw [← c, h]; exact he)
      · rw [if_neg c] at h; cases h
  · rintro (h | h)
    · exact ⟨_, h, by simp⟩
    · exact ⟨_, h, by simp⟩
theorem nbs_length (ps : List Edge) (v : Nat) : (nbs ps v).length ≤ 2 * ps.length := by
  unfold nbs
  induction ps with
  | nil => simp
  | cons e ps ih =>
    rw [List.flatMap_cons, List.length_append, List.length_cons]
    have : ((if e.1 = v then [e.2] else []) ++ (if e.2 = v then [e.1] else [])).length ≤ 2 := by
      by_cases c : e.1 = v <;> by_cases d : e.2 = v <;> simp [c, d]
    omega
theorem nbs_rowOf {n v : Nat} {ps : List Edge} (ok : OkE n ps) (u : Nat) : u ∈ nbs ps v ↔ u ∈ rowOf n ps v := by
  rw [mem_nbs, mem_rowOf]
  refine ⟨fun h => ⟨?_, h⟩, fun h => h.2⟩
  rcases h with h | h
  · exact (ok _ h).2
  · exact Nat.lt_trans (ok _ h).1 (ok _ h).2
structure Rows (H0 : Hp) (D : Addr) (ls : List Addr) (rows : Nat → List Nat) (H : Hp) : Prop where
  same : Same H0 H
  at_ : H D = some (.lst (ls.map V.ref))
  d0 : H0 D = none
  nin : D ∉ ls
  nd : ls.Nodup
  row : ∀ i l, ls[i]? = some l → H l = some (.lst ((rows i).map vi)) ∧ H0 l = none
theorem Rows.congr {H0 : Hp} {D : Addr} {ls : List Addr} {rows rows' : Nat → List Nat} {H : Hp} (h : Rows H0 D ls rows H) (e : ∀ i, rows i = rows' i) : Rows H0 D ls rows' H :=
  { h with row := fun i l q => by rw [← e]; exact h.row i l q }
theorem Rows.keep {H0 : Hp} {D : Addr} {ls : List Addr} {rows : Nat → List Nat} {H H' : Hp} (h : Rows H0 D ls rows H) (s : Same H H') : Rows H0 D ls rows H' :=
  { h with same := h.same.trans s, at_ := s _ _ h.at_, row := fun i l q => ⟨s _ _ (h.row i l q).1, (h.row i l q).2⟩ }
theorem idx_inj {ls : List Addr} (nd : ls.Nodup) {i j : Nat} {l : Addr} (hi : ls[i]? = some l) (hj : ls[j]? = some l) : i = j := by
  obtain ⟨h1, e1⟩ := List.getElem?_eq_some_iff.mp hi
  obtain ⟨h2, e2⟩ := List.getElem?_eq_some_iff.mp hj
  exact (List.getElem_inj nd).mp (e1.trans e2.symm)
theorem Rows.add {H0 : Hp} {D : Addr} {ls : List Addr} {rows : Nat → List Nat} {H : Hp} (h : Rows H0 D ls rows H) {v : Nat} {l : Addr} (hl : ls[v]? = some l) (x : V) (u : Nat) (hx : x = vi u) :
    Rows H0 D ls (fun i => if i = v then rows v ++ [u] else rows i) (upd H l (.lst ((rows v).map vi ++ [x]))) where
  same := fun b o e => by rw [upd_ne (ne_of_none e (h.row _ _ hl).2)]; exact h.same _ _ e
  at_ := by
    have hne : D ≠ l := fun z => h.nin (by rw [z]; exact List.mem_of_getElem? hl)
    rw [upd_ne hne]; exact h.at_
  d0 := h.d0
  nin := h.nin
  nd := h.nd
  row := fun i l' hl' => by
    by_cases c : i = v
    · subst c
      have : l' = l := Option.some.inj (hl'.symm.trans hl)
      subst this
      simp only [if_true]
      exact ⟨by rw [upd_same, hx, List.map_append]; rfl, (h.row _ _ hl).2⟩
    · simp only [if_neg c]
      have hne : l' ≠ l := fun z => c (idx_inj h.nd hl' (by rw [z]; exact hl))
      rw [upd_ne hne]
      exact h.row _ _ hl'
section
variable {P : Program} {w : World} {K : PySem.W.Frag} {mg : Str → Option Value} {base : Heap}
abbrev sWebBy : Stmt := topS 12
theorem sc12 : FnScope ["people", "some", "found", "one", "other", "person", "row"] ["people", "some"] (defScope sWebBy) := ⟨rfl, rfl, rfl, by decide +kernel, rfl, by decide +kernel, by decide +kernel⟩
def spWebBy (K : PySem.W.Frag) : Sp := fun vs H Q _ => ∃ (v : V) (n : Nat) (ps : List Edge), vs = [vi n, v] ∧ IsL K H v (TP K H) ps ∧ OkE n ps ∧ n ≤ 8 ∧ ps.length ≤ 30 ∧
  ∀ H' u, Same H H' → TW K H' u (webOf n ps) → Q u H'
theorem ok_web_by {f : Addr} {fd : FuncData} (F : Fun K "web_by" "web_by" sWebBy f fd) (S : Std mg) : FnOk P w K mg base CX0 1 f fd ["people", "some"] (spWebBy K) := by
  have nd := sc12.nd
  refine F.ok sc12 (fun vs H Q E h => ?_) (fun cdv A outer s H vs Q E hr h => ?_)
  · obtain ⟨v, n, ps, rfl, _⟩ := h
    rfl
  · obtain ⟨v, n, ps, rfl, ⟨a, vs, rfl, hL, hP⟩, ok, h8, h30, q⟩ := h
    refine ⟨_, pss_cons (ps_setLc (i := 2) (own := [("person", 5)]) (g := gName 5) (tt := tYes) (by rfl) nd rfl rfl (sw_true rfl rfl rfl (by decide +kernel)) (pi_range1 (by rfl) S.rng (pa_cons (pv 0) pa_nil)) (blkOk_by (own := [("person", 5)]) (N := ["people", "some", "found", "one", "other", "person", "row"]) (sc := defScope sWebBy) (by decide +kernel))
        (fun _ _ _ _ _ => pg_name (i := 5) nd rfl (.inl rfl)) (fun _ _ _ _ _ => pts_nil) (fun _ _ _ _ _ => pe_lst pa_nil))
      (pss_cons (ps_for PassesOwn.never rfl (pi_list (pv 1)) (pg_tup rfl (pgs_cons (pg_name (i := 3) nd rfl (.inl rfl)) (pgs_cons (pg_name (i := 4) nd rfl (.inl rfl)) pgs_nil)))
        (pss_cons (ps_expr (pe_bm PySem.F.plainAttrs_list PySem.F.slot_list_append PySem.F.type_list_append mt_append (pe_ix ix_list (pv 2) (pv 3) (fun _ _ => rfl)) (pa_cons (pv 4) pa_nil)))
        (pss_one (ps_expr (pe_bm PySem.F.plainAttrs_list PySem.F.slot_list_append PySem.F.type_list_append mt_append (pe_ix ix_list (pv 2) (pv 4) (fun _ _ => rfl)) (pa_cons (pv 3) pa_nil))))))
      (pss_one (ps_ret (pe_tupOf K S.tup (pa_cons (pe_lc (own := [("row", 6)]) (g := gName 6) (tt := tYes) rfl nd (pi_list (pv 2)) (blkOk_by (own := [("row", 6)]) (N := ["people", "some", "found", "one", "other", "person", "row"]) (sc := defScope sWebBy) (by decide +kernel))
        (fun _ _ _ _ _ => pg_name (i := 6) nd rfl (.inl rfl)) (fun _ _ _ _ _ => pts_nil) (fun _ _ _ _ _ => pe_tupOf K S.tup (pa_cons (pe_srtSet w rfl S.srt (pa_cons (pe_setOf K w rfl S.set (pa_cons (pv 6) pa_nil)) pa_nil)) pa_nil))) pa_nil))))), ?_⟩
    have hps : vs.length = ps.length := Paired.length hP
    refine ⟨_, rfl, _, rfl, by show -(2 ^ 62 : Int) ≤ n; omega, by show (n : Int) < 2 ^ 62; omega, fun D hD => lc_range (lo := 0) (n := n) (fun i H' => ∃ ls, ls.length = i ∧ Rows H D ls (fun _ => []) H') ⟨[], rfl, same_new hD, upd_same, hD, by simp, List.nodup_nil, fun i l e => by simp at e⟩ ?_ ?_⟩
    · rintro i H' hi ⟨ls, hls, R⟩
      refine ⟨rfl, tyes ?_⟩
      refine ⟨Nat.zero_le _, fun l hl => ?_⟩
      have R1 := R.keep (same_new (o := .lst []) hl)
      have hDl : D ≠ l := ne_of_none R.at_ hl
      have lnot : l ∉ ls := fun z => by
        obtain ⟨k, hk⟩ := List.mem_iff_getElem?.mp z
        exact ne_of_none (R.row k l hk).1 hl rfl
      refine ⟨ls.map V.ref, R1.at_, by rw [List.length_map]; exact small1000 (by omega), ls ++ [l], by rw [List.length_append, List.length_singleton, hls], fun b o e => ?_, ?_, hD, ?_, ?_, fun k l' hk => ?_⟩
      · rw [upd_ne (ne_of_none e hD)]
        exact R1.same _ _ e
      · rw [upd_same, List.map_append]; rfl
      · rw [List.mem_append, List.mem_singleton]
        exact fun z => z.elim R.nin hDl
      · rw [List.nodup_append]
        exact ⟨R.nd, by simp, fun a ha b hb z => lnot (by rw [← List.mem_singleton.mp hb, ← z]; exact ha)⟩
      · have hDl' : l' ≠ D := fun z => by
          have hm := List.mem_of_getElem? hk
          rw [z, List.mem_append, List.mem_singleton] at hm
          exact hm.elim R.nin hDl
        rw [upd_ne hDl']
        by_cases c : k < ls.length
        · rw [List.getElem?_append_left c] at hk
          exact R1.row k l' hk
        · have hm := List.mem_of_getElem? hk
          rw [List.mem_append, List.mem_singleton] at hm
          rw [List.getElem?_append_right (Nat.not_lt.mp c)] at hk
          have : l' = l := List.mem_singleton.mp (List.mem_of_getElem? hk)
          subst this
          exact ⟨upd_same, R.same.free hl⟩
    · rintro H' ⟨ls, hls, R⟩
      refine ⟨_, rfl, a, rfl, ⟨_, R.same.seq hL⟩, for_list (K := K) (fun j σ H' => (∃ y3 y4, σ = [some (vi n), some (.ref a), some (.ref D), y3, y4, none, none]) ∧ Rows H D ls (nbs (ps.take j)) H') ⟨⟨_, _, rfl⟩, R⟩ (fun _ _ _ _ z => z.2.same.seq hL) ?_ ?_⟩
      · rintro j x σ H1 hj ⟨⟨y3, y4, rfl⟩, R⟩
        obtain ⟨⟨u, v⟩, he, t, rfl, ht⟩ := L2.paired_get hP hj
        have hok := ok _ (List.mem_of_getElem? he)
        have hu : u < ls.length := by rw [hls]; exact Nat.lt_trans hok.1 hok.2
        have hv : v < ls.length := by rw [hls]; exact hok.2
        have hlu := List.getElem?_eq_getElem hu
        have hlv := List.getElem?_eq_getElem hv
        have hju : (ls.map V.ref)[u]? = some (.ref ls[u]) := by rw [List.getElem?_map, hlu]; rfl
        have hjv : (ls.map V.ref)[v]? = some (.ref ls[v]) := by rw [List.getElem?_map, hlv]; rfl
        have hjl : j < ps.length := (List.getElem?_eq_some_iff.mp he).1
        have hlen : ∀ i, (nbs (ps.take j) i).length ≤ 60 := fun i => Nat.le_trans (nbs_length _ _) (by rw [List.length_take]; omega)
        refine ⟨t, [vi u, vi v], rfl, same_sqT R.same ht, rfl, vi u, [vi v], rfl, vi v, [], rfl, rfl, ?_⟩
        refine ⟨_, rfl, _, rfl, D, _, _, _, rfl, rfl, .inl (.inl R.at_), atI_nat hju, .inl ⟨rfl, _, .inl (.inl (R.row _ _ hlu).1)⟩, _, rfl, _, _, _, rfl, rfl, (R.row _ _ hlu).1, by rw [List.length_map]; have := hlen u; exact small1000 (by omega), ?_⟩
        have R1 := R.add hlu (vi v) v rfl
        refine ⟨_, rfl, _, rfl, D, _, _, _, rfl, rfl, .inl (.inl R1.at_), atI_nat hjv, .inl ⟨rfl, _, .inl (.inl (R1.row _ _ hlv).1)⟩, _, rfl, _, _, _, rfl, rfl, (R1.row _ _ hlv).1, ?_, ?_⟩
        · rw [List.length_map, if_neg (Nat.ne_of_gt hok.1)]; have := hlen v; exact small1000 (by omega)
        · refine ⟨⟨_, _, rfl⟩, (R1.add hlv (vi u) u rfl).congr fun i => ?_⟩
          rw [List.take_add_one, he]
          show _ = nbs (ps.take j ++ [(u, v)]) i
          rw [show nbs (ps.take j ++ [(u, v)]) i = nbs (ps.take j) i ++ ((if u = i then [v] else []) ++ (if v = i then [u] else [])) by unfold nbs; rw [List.flatMap_append, List.flatMap_singleton]]
          have h12 : u ≠ v := Nat.ne_of_lt hok.1
          by_cases c : i = v
          · subst c
            simp [h12, h12.symm]
          · by_cases d : i = u
            · subst d
              simp [h12, h12.symm]
            · simp [c, d, Ne.symm c, Ne.symm d]
      · rintro σ H1 ⟨⟨y3, y4, rfl⟩, R⟩
        rw [hps, List.take_length] at R
        have hlen : ∀ i, (nbs ps i).length ≤ 60 := fun i => Nat.le_trans (nbs_length _ _) (by omega)
        refine ⟨_, rfl, D, rfl, ⟨_, .inl (.inl R.at_)⟩, fun D2 hD2 => lcm_list (K := K) (xs := ls.map V.ref) (fun i H y => TR K H y (rowOf n ps i)) (fun _ => true) (fun _ _ _ _ t z => z.ts t) hD2 (.inl (.inl R.at_)) (by rw [List.length_map]; exact Nat.le_of_lt (small1000 (by omega))) ?_ ?_⟩
        · intro i x hx
          rw [List.getElem?_map] at hx
          cases hli : ls[i]? with
          | none => rw [hli] at hx; cases hx
          | some l =>
            rw [hli] at hx
            cases hx
            refine lct_yes fun H2 s2 Qt q2 => ?_
            have hl2 := s2 _ _ (R.row _ _ hli).1
            refine ⟨_, rfl, l, nts (nbs ps i), rfl, .inl (by rw [nts_v]; exact .inl (.inl hl2)), by unfold nts; rw [List.length_map]; exact hlen i, fun c cn hc hcn => ?_⟩
            refine ⟨c, _, cn, rfl, upd_same, ?_, fun ns z hns hmem _ hz => ?_⟩
            · unfold nts at hcn
              rw [List.length_map] at hcn
              have := hlen i
              omega
            · have ens : ns = nts (rowOf n ps i) := eq_of_ltI hns (nts_lt (rowOf_sorted n ps i)) fun k => by
                rw [hmem, decide_eq_true_eq, mem_nts, mem_nts]
                exact exists_congr fun m => and_congr_left fun _ => nbs_rowOf ok m
              subst ens
              have s3 := (same_new (o := SetO w c (fun j => decide (j ∈ nts (nbs ps i))) cn) hc).trans (same_new (o := .lst ((nts (rowOf n ps i)).map V.int)) hz)
              refine ⟨z, _, rfl, .inl ⟨.inl (.inl upd_same), fun t ht => q2 _ _ (s3.trans (same_new ht)) ⟨t, rfl, .inl (.inl (by rw [upd_same, nts_v]))⟩⟩⟩
        · intro H2 ys s2 hys pys
          rw [filter_all, List.length_map, hls] at pys
          refine ⟨D2, ys, rfl, .inl ⟨.inl (.inl hys), fun t ht => q _ _ (R.same.trans (s2.trans (same_new ht))) ⟨t, ys, rfl, .inl (.inl upd_same), ?_⟩⟩⟩
          exact Paired.mapP (paired_mapr (f := rowOf n ps) (R := TR K H2) pys) fun _ _ z => z.ts (.new ht)
end
end Tr

/-! group_in, groups_in, need_group. -/
namespace Tr
open PySem PySem.Spec PyProof.Rows L2
structure Bfs (n : Nat) (ps : List Edge) (p : Nat) (F L : List Nat) : Prop where
  nd : F.Nodup
  st : p ∈ F
  sub : ∀ u ∈ L, u ∈ F
  cls : ∀ u ∈ F, u < n ∧ cn ps p u
  fin : ∀ u ∈ F, u ∉ L → ∀ x ∈ rowOf n ps u, x ∈ F
structure BfsIn (n : Nat) (ps : List Edge) (p u j : Nat) (F L : List Nat) : Prop where
  nd : F.Nodup
  st : p ∈ F
  sub : ∀ u ∈ L, u ∈ F
  cls : ∀ u ∈ F, u < n ∧ cn ps p u
  fin : ∀ v ∈ F, v ∉ L → v ≠ u → ∀ x ∈ rowOf n ps v, x ∈ F
  part : ∀ x ∈ (rowOf n ps u).take j, x ∈ F
  here : u ∈ F
theorem Bfs.start {n p : Nat} {ps : List Edge} (hp : p < n) : Bfs n ps p [p] [p] where
  nd := by simp
  st := by simp
  sub := fun _ h => h
  cls := fun u h => by rw [List.mem_singleton.mp h]; exact ⟨hp, cn_refl _ _⟩
  fin := fun u h k => absurd h k
theorem Bfs.pop {n p u : Nat} {ps : List Edge} {F L : List Nat} (h : Bfs n ps p F (L ++ [u])) : BfsIn n ps p u 0 F L where
  nd := h.nd
  st := h.st
  sub := fun v hv => h.sub v (List.mem_append_left _ hv)
  cls := h.cls
  fin := fun v hv k1 k2 => h.fin v hv (by rw [List.mem_append, List.mem_singleton]; exact fun z => z.elim k1 k2)
  part := fun x hx => by rw [List.take_zero] at hx; cases hx
  here := h.sub u (by simp)
theorem BfsIn.old {n p u j x : Nat} {ps : List Edge} {F L : List Nat} (h : BfsIn n ps p u j F L) (hx : (rowOf n ps u)[j]? = some x) (hF : x ∈ F) : BfsIn n ps p u (j + 1) F L :=
  { h with
    part := fun y hy => by
      rw [List.take_add_one, hx, List.mem_append] at hy
      exact hy.elim (fun hy => h.part y hy) fun hy => (List.mem_singleton.mp hy) ▸ hF }
theorem BfsIn.new {n p u j x : Nat} {ps : List Edge} {F L : List Nat} (ok : OkE n ps) (h : BfsIn n ps p u j F L) (hx : (rowOf n ps u)[j]? = some x) (hF : x ∉ F) : BfsIn n ps p u (j + 1) (F ++ [x]) (L ++ [x]) where
  nd := by
    rw [List.nodup_append]
    exact ⟨h.nd, by simp, fun a ha b hb z => hF (by rw [← List.mem_singleton.mp hb, ← z]; exact ha)⟩
  st := List.mem_append_left _ h.st
  sub := fun v hv => by
    rw [List.mem_append] at hv ⊢
    exact hv.imp_left (h.sub v)
  cls := fun v hv => by
    rw [List.mem_append, List.mem_singleton] at hv
    rcases hv with hv | rfl
    · exact h.cls v hv
    · have hr := mem_rowOf.mp (List.mem_of_getElem? hx)
      refine ⟨hr.1, (h.cls u h.here).2.trans ?_⟩
      rcases hr.2 with e | e
      · exact cn_edge e
      · exact (cn_edge e).symm
  fin := fun v hv k1 k2 y hy => by
    rw [List.mem_append, List.mem_singleton] at k1 hv
    rcases hv with hv | hv
    · exact List.mem_append_left _ (h.fin v hv (fun z => k1 (.inl z)) k2 y hy)
    · exact absurd (.inr hv) k1
  part := fun y hy => by
    rw [List.take_add_one, hx, List.mem_append] at hy
    rcases hy with hy | hy
    · exact List.mem_append_left _ (h.part y hy)
    · exact List.mem_append_right _ hy
  here := List.mem_append_left _ h.here
theorem BfsIn.full {n p u j : Nat} {ps : List Edge} {F L : List Nat} (h : BfsIn n ps p u j F L) (hj : j = (rowOf n ps u).length) : Bfs n ps p F L where
  nd := h.nd
  st := h.st
  sub := h.sub
  cls := h.cls
  fin := fun v hv k x hx => by
    by_cases c : v = u
    · subst c
      exact h.part x (by rw [hj, List.take_length]; exact hx)
    · exact h.fin v hv k c x hx
theorem bfs_len {n : Nat} {F : List Nat} (nd : F.Nodup) (h : ∀ u ∈ F, u < n) : F.length ≤ n := by
  have := nd.length_le_of_subset (l₂ := List.range n) fun x hx => List.mem_range.mpr (h x hx)
  rwa [List.length_range] at this
theorem Bfs.mem {n p : Nat} {ps : List Edge} {F : List Nat} (ok : OkE n ps) (h : Bfs n ps p F []) (u : Nat) : u ∈ F ↔ u ∈ groupOf n ps p := by
  rw [mem_groupOf]
  refine ⟨fun hu => h.cls u hu, fun hu => ?_⟩
  have := cn_least (ps := ps) (S := fun u v => u ∈ F ↔ v ∈ F) (fun _ => Iff.rfl) (fun _ _ z => z.symm) (fun _ _ _ z1 z2 => z1.trans z2) (fun a b hab => by
    have hb := ok _ hab
    exact ⟨fun ha => h.fin a ha (by simp) b (mem_rowOf.mpr ⟨hb.2, .inl hab⟩), fun hb' => h.fin b hb' (by simp) a (mem_rowOf.mpr ⟨Nat.lt_trans hb.1 hb.2, .inr hab⟩)⟩) p u hu.2
  exact this.mp h.st
theorem eq_of_leI {l m : List Int} (hl : l.Pairwise (· ≤ ·)) (hm : m.Pairwise (· ≤ ·)) (h : l.Perm m) : l = m :=
  List.Perm.eq_of_pairwise (le := (· ≤ ·)) (fun a b _ _ h1 h2 => Int.le_antisymm h1 h2) hl hm h
theorem nts_perm {l m : List Nat} (h : l.Perm m) : (nts l).Perm (nts m) := h.map _
theorem nts_le {r : List Nat} (h : r.Pairwise (· < ·)) : (nts r).Pairwise (· ≤ ·) := (nts_lt h).imp Int.le_of_lt
section
variable {P : Program} {w : World} {K : PySem.W.Frag} {mg : Str → Option Value} {base : Heap}
abbrev sGroupIn : Stmt := topS 13
theorem sc13 : FnScope ["web", "person", "found", "last", "here", "other"] ["web", "person"] (defScope sGroupIn) := ⟨rfl, rfl, rfl, by decide +kernel, rfl, by decide +kernel, by decide +kernel⟩
def spGroupIn (K : PySem.W.Frag) : Sp := fun vs H Q _ => ∃ (v : V) (n : Nat) (ps : List Edge) (p : Nat), vs = [v, vi p] ∧ TW K H v (webOf n ps) ∧ OkE n ps ∧ p < n ∧ n ≤ 8 ∧
  ∀ H' t, Same H H' → TR K H' t (groupOf n ps p) → Q t H'
theorem ok_group_in {f : Addr} {fd : FuncData} (F : Fun K "group_in" "group_in" sGroupIn f fd) (S : Std mg) : FnOk P w K mg base CX0 1 f fd ["web", "person"] (spGroupIn K) := by
  have nd := sc13.nd
  refine F.ok sc13 (fun vs H Q E h => ?_) (fun cdv A outer s H vs Q E hr h => ?_)
  · obtain ⟨v, n, ps, p, rfl, _⟩ := h
    rfl
  · obtain ⟨v, n, ps, p, rfl, ⟨a, vs, rfl, hW, hP⟩, ok, hpn, h8, q⟩ := h
    refine ⟨_, pss_cons (ps_par (i := 2) (j := 3) (by rfl) nd rfl rfl (by decide) rfl rfl (pa_cons (pe_lst (pa_cons (pv 1) pa_nil)) (pa_cons (pe_lst (pa_cons (pv 1) pa_nil)) pa_nil)) (by rfl))
      (pss_cons (ps_while PassesOwn.never (pt_cmpR (op_neD hr.units) (pv 3) (pe_lst pa_nil) (nomark _))
        (pss_cons (ps_set (i := 4) nd rfl (.inl rfl) (pe_bm0 PySem.F.plainAttrs_list PySem.F.slot_list_pop PySem.F.type_list_pop mt_pop (pv 3)))
        (pss_one (ps_for PassesOwn.never rfl (pi_tup (pe_ix ix_tup (pv 0) (pv 4) (fun _ _ => rfl))) (pg_name (i := 5) nd rfl (.inl rfl))
          (pss_one (ps_if (pt_cmpR op_notIn_seq (pv 5) (pv 2) rfl)
            (pss_cons (ps_expr (pe_bm PySem.F.plainAttrs_list PySem.F.slot_list_append PySem.F.type_list_append mt_append (pv 2) (pa_cons (pv 5) pa_nil)))
            (pss_one (ps_expr (pe_bm PySem.F.plainAttrs_list PySem.F.slot_list_append PySem.F.type_list_append mt_append (pv 3) (pa_cons (pv 5) pa_nil))))) pss_nil))))))
      (pss_one (ps_ret (pe_tupOf K S.tup (pa_cons (pe_callB cr_sorted (by rfl) S.srt (by decide +kernel) (pa_cons (pv 2) pa_nil)) pa_nil))))), ?_⟩
    refine ⟨_, rfl, by show 1 ≤ sizeLine; decide, fun fd nf => ⟨_, rfl, by show 1 ≤ sizeLine; decide, fun la nl => ⟨_, _, rfl, ?_⟩⟩⟩
    have hfl : fd ≠ la := ne_of_none (o := .lst [vi p]) upd_same nl
    have s0 : Same H (upd (upd H fd (.lst [vi p])) la (.lst [vi p])) := (same_new nf).trans (same_new nl)
    have nl0 : H la = none := by rw [upd_ne hfl.symm] at nl; exact nl
    refine ⟨fun m σ H' => ∃ F L y4 y5, σ = [some (.ref a), some (vi p), some (.ref fd), some (.ref la), y4, y5] ∧ Same H H' ∧ H' fd = some (.lst (F.map vi)) ∧ H' la = some (.lst (L.map vi)) ∧ Bfs n ps p F L ∧ m = 2 * (n - F.length) + L.length ∧ m ≤ 17,
      ⟨_, [p], [p], none, none, rfl, s0, by rw [upd_ne hfl, upd_same]; rfl, upd_same, .start hpn, rfl, by show 2 * (n - 1) + 1 ≤ 17; omega⟩, ?_⟩
    rintro m σ H' ⟨F, L, y4, y5, rfl, sm, hF, hL, B, rfl, le17⟩
    have FB := bfs_len B.nd fun u hu => (B.cls u hu).1
    refine ⟨_, rfl, Nat.zero_le _, fun e he => ?_⟩
    have sme : Same H' (upd H' e (.lst [])) := same_new he
    have shp : ∀ l : List Nat, SeqAt.shaped (.list (l.map dN)) = true := shaped_list (k := 0) lay_dN (fun n => by rw [depth_dN]; exact Nat.le_refl _) (by decide)
    refine ⟨.list (L.map dN), .list ([].map dN), .lst (.inl (.inl (sme _ _ hL))) (dpAll_ints _), .lst (.inl (.inl upd_same)) .nil, shp _, shp _, _, rfl, ?_⟩
    rw [eqv_dNs]
    by_cases hLe : L = []
    · rw [decide_eq_true hLe]
      refine iteF ?_
      subst hLe
      refine ⟨_, rfl, fd, nts F, rfl, .inl (.inl (by rw [nts_v]; exact sme _ _ hF)), by unfold nts; rw [List.length_map]; omega, fun ns z pm rs hz => ?_⟩
      have ens : ns = nts (groupOf n ps p) := eq_of_leI rs (nts_le (groupOf_sorted n ps p)) (pm.trans (nts_perm ((List.perm_ext_iff_of_nodup B.nd (nodup_of_lt (groupOf_sorted n ps p))).mpr (B.mem ok))))
      subst ens
      refine ⟨z, _, rfl, .inl ⟨.inl (.inl upd_same), fun t ht => q _ _ (sm.trans (sme.trans ((same_new hz).trans (same_new ht)))) ⟨t, rfl, .inl (.inl (by rw [upd_same, nts_v]))⟩⟩⟩
    · rw [decide_eq_false hLe]
      obtain ⟨L0, u, rfl⟩ : ∃ L0 u, L = L0 ++ [u] := ⟨L.dropLast, L.getLast hLe, (List.dropLast_concat_getLast hLe).symm⟩
      have smT := sm.trans sme
      have hL1 := sme _ _ hL
      have hF1 := sme _ _ hF
      rw [List.map_append, List.map_singleton] at hL1
      have hn1 : fd ≠ la := hfl
      refine ⟨fun σ' H'' => ∃ F' L' y4 y5, σ' = [some (.ref a), some (vi p), some (.ref fd), some (.ref la), y4, y5] ∧ Same H H'' ∧ H'' fd = some (.lst (F'.map vi)) ∧ H'' la = some (.lst (L'.map vi)) ∧ Bfs n ps p F' L' ∧ 2 * (n - F'.length) + L'.length < 2 * (n - F.length) + (L0 ++ [u]).length,
        fun σ' H'' ⟨F', L', y4, y5, e, s', hF', hL', B', lt⟩ => ⟨_, lt, F', L', y4, y5, e, s', hF', hL', B', rfl, Nat.le_trans (Nat.le_of_lt lt) le17⟩, ?_⟩
      refine ⟨_, rfl, .inl ⟨rfl, _, .inl (.inl hL1)⟩, la, _, vi u, rfl, rfl, hL1, by rw [List.length_append, List.length_map, List.length_singleton, Nat.add_sub_cancel, List.getElem?_append_right (by rw [List.length_map]; exact Nat.le_refl _), List.length_map, Nat.sub_self]; rfl, ?_⟩
      rw [List.dropLast_concat]
      have Bu := B.cls u (B.sub u (by simp))
      have smP : Same H (upd (upd H' e (.lst [])) la (.lst (L0.map vi))) := fun b o q => by
        rw [upd_ne (ne_of_none q nl0)]
        exact smT _ _ q
      obtain ⟨y, hy, l, rfl, hl⟩ := paired_at hP (webOf_get ps Bu.1)
      refine ⟨_, rfl, _, rfl, a, _, _, _, rfl, rfl, same_sqT smP hW, atI_nat hy, l, rfl, ⟨_, same_sqT smP hl⟩, for_tup (K := K) (fun j σ H'' => ∃ F' L' y5, σ = [some (.ref a), some (vi p), some (.ref fd), some (.ref la), some (vi u), y5] ∧ Same H H'' ∧ H'' fd = some (.lst (F'.map vi)) ∧ H'' la = some (.lst (L'.map vi)) ∧ BfsIn n ps p u j F' L' ∧ 2 * (n - F'.length) + L'.length < 2 * (n - F.length) + (L0 ++ [u]).length)
        ⟨F, L0, _, rfl, smP, by rw [upd_ne hfl]; exact hF1, upd_same, B.pop, by rw [List.length_append, List.length_singleton]; omega⟩ (fun j σ H'' _ ⟨_, _, _, _, z, _⟩ => same_sqT z hl) ?_ ?_⟩
      · rintro j x σ H'' hj ⟨F', L', y5, rfl, s', hF', hL', B', lt⟩
        obtain ⟨x, hx, rfl⟩ := map_at hj
        refine ⟨_, rfl, _, rfl, fd, _, rfl, .inl (.inl (.inl hF')), rfl, flat_vi _, _, rfl, ?_⟩
        show if (!inV (vi x) (F'.map vi)) = true then _ else _
        rw [inV_vi]
        by_cases c : x ∈ F'
        · rw [decide_eq_true c]
          exact iteF ⟨F', L', _, rfl, s', hF', hL', B'.old hx c, lt⟩
        · rw [decide_eq_false c]
          have B2 := B'.new ok hx c
          have FB2 := bfs_len B2.nd fun u hu => (B2.cls u hu).1
          rw [List.length_append, List.length_singleton] at FB2
          have LB : L'.length ≤ 17 := by omega
          refine iteT ⟨_, rfl, .inl ⟨rfl, _, .inl (.inl hF')⟩, _, rfl, fd, _, _, rfl, rfl, hF', by rw [List.length_map]; exact small1000 (by omega), ?_⟩
          have hL2 : (upd H'' fd (.lst (F'.map vi ++ [vi x]))) la = some (.lst (L'.map vi)) := by rw [upd_ne hfl.symm]; exact hL'
          refine ⟨_, rfl, .inl ⟨rfl, _, .inl (.inl hL2)⟩, _, rfl, la, _, _, rfl, rfl, hL2, by rw [List.length_map]; exact small1000 (by omega), ?_⟩
          refine ⟨F' ++ [x], L' ++ [x], _, rfl, fun b o q => ?_, ?_, ?_, B2, ?_⟩
          · rw [upd_ne (ne_of_none q nl0), upd_ne (ne_of_none q nf)]
            exact s' _ _ q
          · rw [upd_ne hfl, upd_same, List.map_append]; rfl
          · rw [upd_same, List.map_append]; rfl
          · rw [List.length_append, List.length_append, List.length_singleton]
            show 2 * (n - (F'.length + 1)) + (L'.length + 1) < _
            omega
      · rintro σ H'' ⟨F', L', y5, rfl, s', hF', hL', B', lt⟩
        exact ⟨F', L', _, _, rfl, s', hF', hL', B'.full (by rw [List.length_map]), lt⟩
end
end Tr

/-! groups_in, need_group. -/
namespace Tr
open PySem PySem.Spec PyProof.Rows L2
theorem ks_of {K : PySem.W.Frag} {H : Hp} : ∀ {ys : List V} {gs : List (List Nat)}, Paired (TR K H) ys gs → ∃ ks : List (Addr × List Int), ys = ks.map (fun p => V.ref p.1) ∧ ks.map (·.2) = gs.map nts ∧ ∀ p ∈ ks, SqT K H p.1 (p.2.map V.int)
  | _, _, .nil => ⟨[], rfl, rfl, fun _ h => absurd h (by simp)⟩
  | _ :: _, g :: _, .cons ⟨a, e, s⟩ t => by
    obtain ⟨ks, h1, h2, h3⟩ := ks_of t
    refine ⟨(a, nts g) :: ks, by rw [e, h1]; rfl, by rw [List.map_cons, h2]; rfl, fun p hp => ?_⟩
    rcases List.mem_cons.mp hp with rfl | hp
    · show SqT K H a ((nts g).map V.int)
      rw [nts_v]; exact s
    · exact h3 p hp
theorem conn_group {n p : Nat} {ps : List Edge} (c : Conn n ps) (hp : p < n) : groupOf n ps p = List.range n := by
  unfold groupOf
  exact List.filter_eq_self.mpr fun u hu => decide_eq_true (c p u hp (List.mem_range.mp hu))
theorem all_one {α : Type} {l : List α} (nd : l.Nodup) (x : α) (h : ∀ y ∈ l, y = x) : l.length ≤ 1 := by
  match l, nd with
  | [], _ => exact Nat.zero_le _
  | [_], _ => exact Nat.le_refl _
  | a :: b :: r, nd =>
    exfalso
    have h1 := h a (by simp)
    have h2 := h b (by simp)
    rw [h1, h2] at nd
    simp at nd
section
variable {P : Program} {w : World} {K : PySem.W.Frag} {mg : Str → Option Value} {base : Heap}
abbrev sGroupsIn : Stmt := topS 14
theorem sc14 : FnScope ["web", "person"] ["web"] (defScope sGroupsIn) := ⟨rfl, rfl, rfl, by decide +kernel, rfl, by decide +kernel, by decide +kernel⟩
def spGroupsIn (K : PySem.W.Frag) : Sp := fun vs H Q _ => ∃ (v : V) (n : Nat) (ps : List Edge), vs = [v] ∧ TW K H v (webOf n ps) ∧ OkE n ps ∧ Conn n ps ∧ 1 ≤ n ∧ n ≤ 8 ∧
  ∀ H' p xs, Same H H' → H' p = some (.lst xs) → xs.length ≤ 1 → Q (.ref p) H'
theorem ok_groups_in {f : Addr} {fd : FuncData} (F : Fun K "groups_in" "groups_in" sGroupsIn f fd) (S : Std mg) (G : Has P w K mg base 1 "group_in" ["web", "person"] (spGroupIn K)) : FnOk P w K mg base CX0 2 f fd ["web"] (spGroupsIn K) := by
  have nd := sc14.nd
  refine F.ok sc14 (fun vs H Q E h => ?_) (fun cdv A outer s H vs Q E hr h => ?_)
  · obtain ⟨v, n, ps, rfl, _⟩ := h
    rfl
  · obtain ⟨v, n, ps, rfl, hw, ok, hc, h1, h8, q⟩ := h
    refine ⟨_, pss_one (ps_ret (pe_callB (cr_sortedT rfl) (by rfl) S.srt (by decide +kernel) (pa_cons (pe_callTy (cr_setOfT rfl hr.units) (by rfl) S.set (by decide +kernel) (pa_cons
      (pe_lc (own := [("person", 1)]) (g := gName 1) (tt := tYes) rfl nd (pi_range1 (by rfl) S.rng (pa_cons (pe_lenOf K S.len (pa_cons (pv 0) pa_nil)) pa_nil)) (blkOk_by (own := [("person", 1)]) (N := ["web", "person"]) (sc := defScope sGroupsIn) (by decide +kernel))
        (fun _ _ _ _ _ => pg_name (i := 1) nd rfl (.inl rfl)) (fun _ _ _ _ _ => pts_nil) (fun _ _ _ _ _ => pe_has G hr (pa_cons (pv 0) (pa_cons (pv 1) pa_nil)))) pa_nil)) pa_nil))), ?_⟩
    obtain ⟨a, vs, rfl, hW, hP⟩ := id hw
    have hlen : vs.length = n := (Paired.length hP).trans (webOf_length n ps)
    refine ⟨_, rfl, a, vs, rfl, .inr hW, ?_⟩
    rw [hlen]
    refine ⟨_, rfl, by show -(2 ^ 62 : Int) ≤ n; omega, by show (n : Int) < 2 ^ 62; omega, fun D hD => lcm_range (lo := 0) (n := n) (fun i H y => TR K H y (groupOf n ps i)) (fun _ => true) (fun _ _ _ _ t z => z.ts t) hD (Nat.le_of_lt (small1000 (by omega))) ?_ ?_⟩
    · intro i hi
      rw [show (0 : Int) + (i : Int) = (i : Int) by omega]
      exact lct_yes fun H2 s2 Qt q2 => ⟨_, rfl, _, rfl, _, n, ps, i, rfl, hw.ts (.of s2), ok, hi, h8, fun H3 t s3 r => q2 _ _ s3 r⟩
    · intro H2 ys s2 hys pys
      rw [filter_all] at pys
      obtain ⟨ks, rfl, e2, hk⟩ := ks_of (paired_mapr (f := groupOf n ps) (R := TR K H2) pys)
      have hkl : ks.length = n := by
        have := congrArg List.length e2
        simpa using this
      have each : ∀ p ∈ ks, p.2 = nts (List.range n) := fun p hp => by
        have hm : p.2 ∈ ks.map (·.2) := List.mem_map_of_mem hp
        rw [e2] at hm
        obtain ⟨g, hg, eg⟩ := List.mem_map.mp hm
        obtain ⟨i, hi, ei⟩ := List.mem_map.mp hg
        rw [← eg, ← ei, conn_group hc (List.mem_range.mp hi)]
      refine ⟨D, ks, rfl, .inl (.inl hys), hk, by omega, fun b L hb hL1 hL2 => ?_⟩
      have s3 : Same H2 (upd H2 b (SetTO P w b L)) := same_new hb
      refine ⟨b, L, n, n, rfl, upd_same, fun p hp => same_sqT s3 (hk p (hL1 p hp)), h1, fun p hp => ?_, fun L' z pm nd' _ _ hz => ?_⟩
      · rw [each p (hL1 p hp)]
        refine ⟨by unfold nts; rw [List.length_map, List.length_range], fun m hm => ?_⟩
        obtain ⟨k, hk, rfl⟩ := mem_nts.mp hm
        have := List.mem_range.mp hk
        omega
      · refine q _ z _ (s2.trans (s3.trans (same_new hz))) upd_same ?_
        rw [List.length_map, ← List.length_map (f := (·.2))]
        refine all_one nd' (nts (List.range n)) fun y hy => ?_
        obtain ⟨p, hp, rfl⟩ := List.mem_map.mp hy
        exact each p (hL1 p (pm.mem_iff.mp hp))
abbrev sNeedGroup : Stmt := topS 17
theorem sc17 : FnScope ["web"] ["web"] (defScope sNeedGroup) := ⟨rfl, rfl, rfl, by decide +kernel, rfl, by decide +kernel, by decide +kernel⟩
def spNeedGroup (K : PySem.W.Frag) : Sp := fun vs H Q _ => ∃ (v : V) (n : Nat) (ps : List Edge), vs = [v] ∧ TW K H v (webOf n ps) ∧ OkE n ps ∧ Conn n ps ∧ 1 ≤ n ∧ n ≤ 6 ∧ ∀ H', Same H H' → Q .non H'
theorem ok_need_group {f : Addr} {fd : FuncData} (F : Fun K "need_group" "need_group" sNeedGroup f fd) (S : Std mg) (GW : Has P w K mg base 3 "need_web" ["web"] (spNeedWeb K)) (GG : Has P w K mg base 2 "groups_in" ["web"] (spGroupsIn K)) : FnOk P w K mg base CX0 4 f fd ["web"] (spNeedGroup K) := by
  have nd := sc17.nd
  obtain ⟨tp, hmt⟩ := S.mt
  refine F.ok sc17 (fun vs H Q E h => ?_) (fun cdv A outer s H vs Q E hr h => ?_)
  · obtain ⟨v, n, ps, rfl, _⟩ := h
    rfl
  · obtain ⟨v, n, ps, rfl, hw, ok, hc, h1, h6, q⟩ := h
    refine ⟨_, pss_cons (ps_expr (pe_has GW hr (pa_cons (pv 0) pa_nil)))
      (pss_cons (ps_if (pt_cmpR op_gt (pe_lenOf K S.len (pa_cons (pe_has GG (hr.mono (by decide)) (pa_cons (pv 0) pa_nil)) pa_nil)) pe_int (nomark _)) (pss_one ps_never) pss_nil)
      (pss_one (ps_if (pt_cmpR op_gt (pe_lenOf K S.len (pa_cons (pv 0) pa_nil)) (pe_glob (v := .int 6) (by rfl) hmt ⟨_, rfl⟩) (nomark _)) (pss_one ps_never) pss_nil))), ?_⟩
    refine ⟨_, rfl, _, n, ps, rfl, hw, ok, h1, by omega, fun H1 s1 => ?_⟩
    refine ⟨_, rfl, _, n, ps, rfl, hw.ts (.of s1), ok, hc, h1, by omega, fun H2 p xs s2 hp hx => ?_⟩
    refine ⟨p, xs, rfl, .inl (.inl (.inl hp)), _, _, rfl, rfl, _, rfl, ite2 (fun c => ?_) fun _ => ?_⟩
    · have := of_decide_eq_true c
      omega
    · obtain ⟨a, vs, rfl, hW, hP⟩ := hw.ts (.of (s1.trans s2))
      have hlen : vs.length = n := (Paired.length hP).trans (webOf_length n ps)
      refine ⟨_, rfl, a, vs, rfl, .inr hW, _, _, rfl, rfl, _, rfl, ite2 (fun c => ?_) fun _ => q _ (s1.trans s2)⟩
      have := of_decide_eq_true c
      omega
end
end Tr

/-! trees_in. -/
namespace Tr
open PySem PySem.Spec PyProof.Rows L2
theorem edges_len {n : Nat} {cs : List Edge} (nd : cs.Nodup) (ok : OkE n cs) (h5 : n ≤ 5) : cs.length ≤ 10 := by
  have h : ∀ e ∈ cs, e ∈ (List.range 5).flatMap fun b => (List.range b).map fun a => (a, b) := fun e he => by
    have := ok e he
    rw [List.mem_flatMap]
    exact ⟨e.2, List.mem_range.mpr (by omega), List.mem_map.mpr ⟨e.1, List.mem_range.mpr this.1, rfl⟩⟩
  exact Nat.le_trans (nd.length_le_of_subset h) (by decide)
theorem keys_len {n k : Nat} {cs : List Edge} {l : List Web} (nd : l.Nodup) (hc : cs.length ≤ 10) (h : ∀ w ∈ l, ∃ F, Sub n cs k F ∧ w = webOf n F) : l.length ≤ 1024 := by
  have := nd.length_le_of_subset (l₂ := (subsL cs).map (webOf n)) fun w hw => by
    obtain ⟨F, hF, e⟩ := h w hw
    exact List.mem_map.mpr ⟨F, mem_subsL.mpr hF.1, e.symm⟩
  rw [List.length_map, subsL_length] at this
  exact Nat.le_trans this (Nat.pow_le_pow_right (by decide) hc)
theorem Turned.len {n k : Nat} {cs : List Edge} {kvs : List (Web × List Nat)} (h : Turned n cs k kvs) (hc : cs.length ≤ 10) : kvs.length ≤ 1024 := by
  have := keys_len h.nd hc (k := k) (n := n) fun w hw => by
    obtain ⟨⟨w', g⟩, hm, e⟩ := List.mem_map.mp hw
    obtain ⟨F, h1, h2, _⟩ := h.sound w' g hm
    exact ⟨F, h1, e.symm.trans h2⟩
  rwa [List.length_map] at this
theorem Later.len {n k : Nat} {cs : List Edge} {P : Web → Edge → Prop} {kvs : List (Web × List Nat)} (h : Later n cs k P kvs) (hc : cs.length ≤ 10) : kvs.length ≤ 1024 := by
  have := keys_len h.nd hc (k := k + 1) (n := n) fun w hw => by
    obtain ⟨⟨w', g⟩, hm, e⟩ := List.mem_map.mp hw
    obtain ⟨F, h1, h2, _⟩ := h.sound w' g hm
    exact ⟨F, h1, e.symm.trans h2⟩
  rwa [List.length_map] at this
/-- the dict's entries as they stand, and what they mean -/
def GV (K : PySem.W.Frag) (H : Hp) (kvs : List (Web × V)) (gs : List (Web × List Nat)) : Prop := Paired (fun x y => x.1 = y.1 ∧ TR K H x.2 y.2) kvs gs
theorem GV.ts {K : PySem.W.Frag} {H H' : Hp} {kvs : List (Web × V)} {gs : List (Web × List Nat)} (h : GV K H kvs gs) (t : Tst H H') : GV K H' kvs gs := Paired.mapP h fun _ _ z => ⟨z.1, z.2.ts t⟩
theorem GV.keys {K : PySem.W.Frag} {H : Hp} : ∀ {kvs : List (Web × V)} {gs : List (Web × List Nat)}, GV K H kvs gs → kvs.map (·.1) = gs.map (·.1)
  | _, _, .nil => rfl
  | _, _, .cons r t => by rw [List.map_cons, List.map_cons, r.1, GV.keys t]
theorem GV.put {K : PySem.W.Frag} {H : Hp} {kvs : List (Web × V)} {gs : List (Web × List Nat)} (h : GV K H kvs gs) {t : Web} {v : V} {g : List Nat} (hv : TR K H v g) : GV K H (put kvs t v) (put gs t g) := by
  have hk := h.keys
  unfold Tr.put
  rw [hk]
  by_cases c : t ∈ gs.map (·.1)
  · rw [if_pos c, if_pos c]
    clear c hk
    induction h with
    | nil => exact .nil
    | @cons x y xs ys r t ih =>
      rw [List.map_cons, List.map_cons]
      refine .cons ?_ ih
      by_cases d : y.1 = ‹Web›
      · rw [if_pos (by rw [r.1]; exact d), if_pos d]
        exact ⟨rfl, hv⟩
      · rw [if_neg (fun z => d (by rw [← r.1]; exact z)), if_neg d]
        exact r
  · rw [if_neg c, if_neg c]
    exact Paired.snoc h ⟨rfl, hv⟩
def rRepA (K : PySem.W.Frag) : R2 := fun x y H Q => rRep1 K x y H Q ∨ rRepT K x y H Q
theorem op_repA {X : Cx} : OpR X (binaryOp .Mult) (rRepA X.K) := fun pins s σ H x y v u Q I rx ry h =>
  h.elim (fun h => op_rep1 pins s σ H x y v u Q I rx ry h) fun h => op_repT pins s σ H x y v u Q I rx ry h
theorem webOf_nil (n : Nat) : webOf n [] = List.replicate n [] := by
  unfold webOf
  rw [List.eq_replicate_iff]
  refine ⟨by rw [List.length_map, List.length_range], fun r hr => ?_⟩
  obtain ⟨v, _, e⟩ := List.mem_map.mp hr
  rw [← e]
  unfold rowOf
  rw [List.filter_eq_nil_iff]
  intro u _
  simp [adj]
theorem rep_rows {K : PySem.W.Frag} {H : Hp} {e : Addr} (he : SqT K H e []) : ∀ n : Nat, Paired (TR K H) (List.replicate n [V.ref e]).flatten (List.replicate n [])
  | 0 => .nil
  | n + 1 => by
    rw [List.replicate_succ, List.replicate_succ, List.flatten_cons]
    exact .cons ⟨e, rfl, he⟩ (rep_rows he n)
theorem lt1024 {n : Nat} (h : n ≤ 1024) : n < sizeLine := Nat.lt_of_le_of_lt h (by decide)
theorem repA_web {K : PySem.W.Frag} {H : Hp} {t e : Addr} {n : Nat} {Q' : VK} (hn : 1 ≤ n) (h5 : n ≤ 1000) (ht : SqT K H t [.ref e]) (he : SqT K H e []) (k : ∀ Hk b, Same H Hk → TW K Hk (.ref b) (webOf n []) → Q' (.ref b) Hk) : rRepA K (.ref t) (vi n) H Q' := by
  by_cases c : n = 1
  · subst c
    refine .inl ⟨t, [.ref e], rfl, rfl, ht, by simp, k _ _ (.refl _) ⟨t, [.ref e], rfl, ht, ?_⟩⟩
    rw [webOf_nil]
    exact .cons ⟨e, rfl, he⟩ .nil
  · refine .inr ⟨t, n, [.ref e], rfl, rfl, ht, by simp, by omega, by omega, by show 1 ≤ 1000; decide, fun p hp => k _ _ (same_new hp) ⟨p, _, rfl, .inl (.inl upd_same), ?_⟩⟩
    rw [webOf_nil, Int.toNat_natCast]
    have he2 := same_sqT (same_new (o := .tup (List.replicate n [V.ref e]).flatten) hp) he
    exact rep_rows he2 n
theorem rgV_nat (n : Nat) : rgV 0 (n : Int) = (List.range n).map vi := by
  unfold rgV
  rw [show ((n : Int) - 0).toNat = n by omega]
  exact List.map_congr_left fun i _ => by show V.int (0 + (i : Int)) = V.int i; rw [Int.zero_add]
theorem paired_idx {l : List Nat} {ys : List V} (h : Paired (fun y i => ∃ x, l[i]? = some x ∧ y = vi x) ys (List.range l.length)) : ys = l.map vi := by
  have hl : ys.length = l.length := (Paired.length h).trans List.length_range
  apply List.ext_getElem?
  intro i
  by_cases c : i < ys.length
  · obtain ⟨k, hk, x, hx, e⟩ := L2.paired_get h (List.getElem?_eq_getElem c)
    rw [List.getElem?_range (by omega)] at hk
    cases hk
    rw [List.getElem?_eq_getElem c, List.getElem?_map, hx, e]
    rfl
  · rw [List.getElem?_eq_none (by omega), List.getElem?_eq_none (by rw [List.length_map]; omega)]
theorem ty_dW {n : Nat} {ps : List Edge} (hn : 1 ≤ n) : ∃ x r, dW (webOf n ps) = .tuple (x :: r) := by
  obtain ⟨m, rfl⟩ : ∃ m, n = m + 1 := ⟨n - 1, by omega⟩
  have h := webOf_length (m + 1) ps
  cases e : webOf (m + 1) ps with
  | nil => rw [e] at h; cases h
  | cons r w => exact ⟨_, _, rfl⟩
section
variable {P : Program} {w : World} {K : PySem.W.Frag} {mg : Str → Option Value} {base : Heap}
abbrev sTreesIn : Stmt := topS 18
abbrev nTr : List Str := ["web", "found", "turn", "later", "tree", "group", "one", "other", "there", "old", "new", "number"]
theorem sc18 : FnScope nTr ["web"] (defScope sTreesIn) := ⟨rfl, rfl, rfl, by decide +kernel, rfl, by decide +kernel, by decide +kernel⟩
def spTreesIn (K : PySem.W.Frag) : Sp := fun vs H Q _ => ∃ (v : V) (n : Nat) (ps : List Edge), vs = [v] ∧ TW K H v (webOf n ps) ∧ OkE n ps ∧ Conn n ps ∧ 1 ≤ n ∧ n ≤ 5 ∧
  ∀ H' p xs, Same H H' → H p = none → H' p = some (.lst xs) → Paired (TW K H') xs (treesOf n (pairsOf (webOf n ps))) → Q (.ref p) H'
theorem ok_trees_in {f : Addr} {fd : FuncData} (F : Fun K "trees_in" "trees_in" sTreesIn f fd) (S : Std mg) (GP : Has P w K mg base 1 "pairs_in" ["web"] (spPairsIn K)) (GB : Has P w K mg base 1 "web_by" ["people", "some"] (spWebBy K)) : FnOk P w K mg base CX0 2 f fd ["web"] (spTreesIn K) := by
  have nd := sc18.nd
  refine F.ok sc18 (fun vs H Q E h => ?_) (fun cdv A outer s H vs Q E hr h => ?_)
  · obtain ⟨v, n, ps, rfl, _⟩ := h
    rfl
  · obtain ⟨v, n, ps, rfl, hw, ok, hc, h1, h5, q⟩ := h
    refine ⟨_, pss_cons (ps_set (i := 1) nd rfl (.inl rfl) (pe_oneX (kk := kkW K) hr.units (pe_op (r := rRepA K) op_repA (pe_tup (pa_cons (pe_tup pa_nil) pa_nil)) (pe_lenOf K S.len (pa_cons (pv 0) pa_nil)))
        (pe_tupRg rfl (by rfl) S.tup (prg_1 (by rfl) S.rng (pe_lenOf K S.len (pa_cons (pv 0) pa_nil))))))
      (pss_cons (ps_for PassesOwn.never rfl (pi_range1 (by rfl) S.rng (pa_cons (pe_op op_sub (pe_lenOf K S.len (pa_cons (pv 0) pa_nil)) pe_int) pa_nil)) (pg_name (i := 2) nd rfl (.inl rfl))
        (pss_cons (ps_set (i := 3) nd rfl (.inl rfl) pe_newX)
        (pss_cons (ps_for PassesOwn.never rfl (pi_itemsX (kk := kkW K) (pv 1)) (pg_tup rfl (pgs_cons (pg_name (i := 4) nd rfl (.inl rfl)) (pgs_cons (pg_name (i := 5) nd rfl (.inl rfl)) pgs_nil)))
          (pss_one (ps_for PassesOwn.never rfl (pi_list (pe_has GP hr (pa_cons (pv 0) pa_nil))) (pg_tup rfl (pgs_cons (pg_name (i := 6) nd rfl (.inl rfl)) (pgs_cons (pg_name (i := 7) nd rfl (.inl rfl)) pgs_nil)))
            (pss_one (ps_if (pt_cmpR op_ne (pe_ixT K (pv 5) (pv 6)) (pe_ixT K (pv 5) (pv 7)) (nomark _))
              (pss_cons (ps_set (i := 8) nd rfl (.inl rfl) (pe_has GB hr (pa_cons (pe_lenOf K S.len (pa_cons (pv 0) pa_nil)) (pa_cons (pe_lst (StX.pa_star (pe_has GP hr (pa_cons (pv 4) pa_nil)) (pa_cons (pe_tup (pa_cons (pv 6) (pa_cons (pv 7) pa_nil))) pa_nil))) pa_nil))))
              (pss_cons (ps_asg (pe_tup (pa_cons (pe_callB (call_max2 rfl) (by rfl) S.max (by decide +kernel) (pa_cons (pe_ixT K (pv 5) (pv 6)) (pa_cons (pe_ixT K (pv 5) (pv 7)) pa_nil))) (pa_cons (pe_callB (call_min2 rfl) (by rfl) S.min (by decide +kernel) (pa_cons (pe_ixT K (pv 5) (pv 6)) (pa_cons (pe_ixT K (pv 5) (pv 7)) pa_nil))) pa_nil)))
                (pg_tup rfl (pgs_cons (pg_name (i := 9) nd rfl (.inr rfl)) (pgs_cons (pg_name (i := 10) nd rfl (.inr rfl)) pgs_nil))))
              (pss_one (ps_asg (pe_tupOf K S.tup (pa_cons (pe_lc (own := [("number", 11)]) (g := gName 11) (tt := tYes) rfl nd (pi_tup (pv 5)) (blkOk_by (own := [("number", 11)]) (N := nTr) (sc := defScope sTreesIn) (by decide +kernel))
                  (fun _ _ _ _ _ => pg_name (i := 11) nd rfl (.inl rfl)) (fun _ _ _ _ _ => pts_nil) (fun _ _ _ _ _ => pe_ifExp (pt_cmpR op_eq (pv 11) (pv 9) (nomark _)) (pv 10) (pv 11))) pa_nil))
                (pg_sub (pv 3) (pv 8) (set_X (kk := kkW K) hr.units)))))) pss_nil)))))
        (pss_one (ps_set (i := 1) nd rfl (.inl rfl) (pv 3))))))
      (pss_one (ps_ret (pe_callB (cr_sortD (enc := dW) hr.units) (by rfl) S.srt (by decide +kernel) (pa_cons (pe_callTy (call_list_X (kk := kkW K) rfl) (by rfl) S.lst (by decide +kernel) (pa_cons (pv 1) pa_nil)) pa_nil))))), ?_⟩
    obtain ⟨a, vs, rfl, hW, hP⟩ := id hw
    have hlen : vs.length = n := (Paired.length hP).trans (webOf_length n ps)
    have csd : (pairsOf (webOf n ps)).Nodup := pairsOf_nodup
    have okc : OkE n (pairsOf (webOf n ps)) := pairsOf_ok ok
    have hcl := edges_len csd okc h5
    have hu := hr.units
    intro d hd hsys
    have s1 : Same H (upd H d (dX d #[] 0)) := same_new hd
    refine ⟨Nat.zero_le _, fun e he => ⟨by show 1 ≤ sizeLine; decide, fun t ht => ?_⟩⟩
    have s2 := s1.trans (same_new (o := .tup []) he)
    have s3 := s2.trans (same_new (o := .tup [V.ref e]) ht)
    have hte : e ≠ t := ne_of_none (o := .tup []) upd_same ht
    refine ⟨_, rfl, a, vs, rfl, .inr (same_sqT s3 hW), ?_⟩
    rw [hlen]
    refine repA_web h1 (by omega) (.inl (.inl upd_same)) (.inl (.inl (by rw [upd_ne hte, upd_same]))) fun Hk b sk hb => ?_
    have s4 := s3.trans sk
    refine ⟨_, rfl, a, vs, rfl, .inr (same_sqT s4 hW), _, rfl, ⟨by decide, by decide, by omega, by omega, by omega⟩, fun g hg => ?_⟩
    have s5 := s4.trans (same_new (o := .tup (rgV 0 (vs.length : Nat))) hg)
    have sd : Same (upd H d (dX d #[] 0)) (upd Hk g (.tup (rgV 0 (vs.length : Nat)))) := ((same_new he).trans (same_new ht)).trans (sk.trans (same_new hg))
    have hd5 := sd d _ upd_same
    refine ⟨hd5, b, webOf n [], .ref g, rfl, hb.ts (.of (same_new hg)), fun es ep D => ?_⟩
    have td : Tst (upd Hk g (.tup (rgV 0 (vs.length : Nat)))) (upd (upd Hk g (.tup (rgV 0 (vs.length : Nat)))) d (dX d es ep)) := .mut hd5 trivial
    refine ⟨_, rfl, a, vs, rfl, .inr (td.sqT (same_sqT s5 hW)), _, _, rfl, rfl, ((n - 1 : Nat) : Int), congrArg (fun z => [V.int z]) (by omega), by show -(2 ^ 62 : Int) ≤ _; omega, by show _ < (2 ^ 62 : Int); omega, for_range (n := n - 1) (fun k σ H' => ∃ d kvs gs y2 y3 y4 y5 y6 y7 y8 y9 y10, σ = [some (.ref a), some (.ref d), y2, y3, y4, y5, y6, y7, y8, y9, y10, none] ∧ Same H H' ∧ H d = none ∧ DX P w (kkW K) H' d kvs ∧ GV K H' kvs gs ∧ Turned n (pairsOf (webOf n ps)) k gs)
      ⟨d, [(webOf n [], .ref g)], [(webOf n [], List.range n)], none, none, none, none, none, none, none, none, none, rfl, fun b o e => ?_, hd, D, ?_, turned_start n _⟩ ?_ ?_⟩
    · rw [upd_ne (ne_of_none e hd)]
      exact s5 _ _ e
    · refine .cons ⟨rfl, g, rfl, .inl (.inl ?_)⟩ .nil
      have hgd : g ≠ d := fun z => by rw [z] at hg; exact ne_of_none (((same_new he).trans (same_new ht)).trans sk d _ upd_same) hg rfl
      rw [upd_ne hgd, upd_same, hlen, rgV_nat]
    · rintro k σ H1 hk ⟨d, kvs, gs, y2, y3, y4, y5, y6, y7, y8, y9, y10, rfl, sm, hd, D, hG, hT⟩
      intro la hla hlsys
      have hdla : d ≠ la := by
        obtain ⟨es, ep, z⟩ := D.at_
        exact ne_of_none z hla
      have hla0 := sm.free hla
      have sl : Same H1 (upd H1 la (dX la #[] 0)) := same_new hla
      have D1 := D.same sl
      obtain ⟨es, ep, hes⟩ := D1.at_
      have hgl : kvs.length = gs.length := Paired.length hG
      refine ⟨_, rfl, d, es, ep, kvs, rfl, hes, D1, for_itemsX (X := (cxOf CX0 P w K mg base nTr "trees_in" (defScope sTreesIn) f cdv A outer s H E).nox) (kk := kkW K) (fun i σ H2 => ∃ lat lgs y4 y5 y6 y7 y8 y9 y10, σ = [some (.ref a), some (.ref d), some (.int (0 + (k : Int))), some (.ref la), y4, y5, y6, y7, y8, y9, y10, none] ∧ Same H H2 ∧ H2 d = some (dX d es ep) ∧ DX P w (kkW K) H2 d kvs ∧ GV K H2 kvs gs ∧ DX P w (kkW K) H2 la lat ∧ GV K H2 lat lgs ∧
          Later n (pairsOf (webOf n ps)) k (fun x y => y ∈ pairsOf (webOf n ps) ∧ ∃ j, j < i ∧ ∃ g, gs[j]? = some (x, g)) lgs)
        ⟨[], [], _, _, _, _, _, _, _, rfl, sm.trans sl, hes, D1, hG.ts (.of sl), .nil hlsys, .nil, later_start _ _ _ fun x y ⟨_, j, hj, _⟩ => absurd hj (Nat.not_lt_zero _)⟩
        ?_ ?_ ?_⟩
      · rintro i σ H2 _ ⟨_, _, _, _, _, _, _, _, _, _, _, h1, h2, _⟩
        exact ⟨h1, h2⟩
      · rintro i ⟨tw, gv⟩ b T σ H2 hi ⟨lat, lgs, y4, y5, y6, y7, y8, y9, y10, rfl, sm2, hd2, D2, hG2, DL, hGL, hL⟩ hb hT2
        obtain ⟨⟨tw', g⟩, hgi, e1, hg⟩ := L2.paired_get hG2 hi
        simp only at e1 hg
        subst e1
        obtain ⟨F, hF, rfl, hlab⟩ := hT.sound _ _ (List.mem_of_getElem? hgi)
        obtain ⟨ga, rfl, hga⟩ := hg
        have hb : TW K H2 (.ref b) (webOf n F) := hb
        have sT : Same H2 (upd H2 T (.tup [.ref b, .ref ga])) := same_new hT2
        refine ⟨T, [.ref b, .ref ga], rfl, .inl (.inl upd_same), rfl, .ref b, [.ref ga], rfl, .ref ga, [], rfl, rfl, ?_⟩
        refine ⟨_, rfl, _, n, ps, rfl, hw.ts (.of (sm2.trans sT)), by omega, fun H3 pl xs s3 hpl hxl pp => ?_⟩
        have t3 : Tst H2 H3 := .of (sT.trans s3)
        have hb3 := hb.ts t3
        have hga3 := t3.sqT hga
        obtain ⟨esL, epL, hesL⟩ := (DL.same (sT.trans s3)).at_
        have hplla : la ≠ pl := ne_of hesL hxl (by intro z; cases z)
        refine ⟨pl, rfl, ⟨_, .inl (.inl hxl)⟩, for_list (K := K) (xs := xs) (fun j σ H4 => ∃ lat lgs y6 y7 y8 y9 y10, σ = [some (.ref a), some (.ref d), some (.int (0 + (k : Int))), some (.ref la), some (.ref b), some (.ref ga), y6, y7, y8, y9, y10, none] ∧ Same H H4 ∧ H4 d = some (dX d es ep) ∧ DX P w (kkW K) H4 d kvs ∧ GV K H4 kvs gs ∧ DX P w (kkW K) H4 la lat ∧ GV K H4 lat lgs ∧
            Tst H3 H4 ∧ H4 pl = some (.lst xs) ∧ Later n (pairsOf (webOf n ps)) k (fun x y => (y ∈ pairsOf (webOf n ps) ∧ ∃ j, j < i ∧ ∃ g, gs[j]? = some (x, g)) ∨ (x = webOf n F ∧ y ∈ (pairsOf (webOf n ps)).take j)) lgs)
          ⟨lat, lgs, _, _, _, _, _, rfl, sm2.trans (sT.trans s3), (sT.trans s3) _ _ hd2, D2.same (sT.trans s3), hG2.ts t3, DL.same (sT.trans s3), hGL.ts t3, .refl _, hxl, hL.mono fun x y z => z.elim id fun z => by rw [List.take_zero] at z; exact absurd z.2 (by simp)⟩
          (fun j σ H4 _ ⟨_, _, _, _, _, _, _, _, _, _, _, _, _, _, _, z, _⟩ => .inl (.inl z)) ?_ ?_⟩
        · rintro j x σ H4 hj ⟨lat, lgs, y6, y7, y8, y9, y10, rfl, sm4, hd4, D4, hG4, DL4, hGL4, t4, hpl4, hL4⟩
          obtain ⟨⟨u, v⟩, hej, t, rfl, ht⟩ := L2.paired_get pp hj
          have hec := List.mem_of_getElem? hej
          have huv := okc _ hec
          have hun : u < n := Nat.lt_trans huv.1 huv.2
          have hvn : v < n := huv.2
          have hgu : g[u]? = some (g[u]'(by rw [hlab.1]; exact hun)) := List.getElem?_eq_getElem _
          have hgv : g[v]? = some (g[v]'(by rw [hlab.1]; exact hvn)) := List.getElem?_eq_getElem _
          revert hgu hgv
          generalize (g[u]'(by rw [hlab.1]; exact hun)) = gu
          generalize (g[v]'(by rw [hlab.1]; exact hvn)) = gv
          intro hgu hgv
          have hmu : (g.map vi)[u]? = some (vi gu) := by rw [List.getElem?_map, hgu]; rfl
          have hmv : (g.map vi)[v]? = some (vi gv) := by rw [List.getElem?_map, hgv]; rfl
          have hga4 := t4.sqT hga3
          refine ⟨t, [vi u, vi v], rfl, t4.sqT ht, rfl, vi u, [vi v], rfl, vi v, [], rfl, rfl, ?_⟩
          refine ⟨_, rfl, _, rfl, ga, _, u, vi gu, rfl, rfl, hga4, atI_nat hmu, _, rfl, _, rfl, ga, _, v, vi gv, rfl, rfl, hga4, atI_nat hmv, rfl, _, rfl, ?_⟩
          have stp : ∀ (lgs' : List (Web × List Nat)), Later n (pairsOf (webOf n ps)) k (fun x y => ((y ∈ pairsOf (webOf n ps) ∧ ∃ j, j < i ∧ ∃ g, gs[j]? = some (x, g)) ∨ (x = webOf n F ∧ y ∈ (pairsOf (webOf n ps)).take j)) ∨ (x = webOf n F ∧ y = (u, v))) lgs' →
              Later n (pairsOf (webOf n ps)) k (fun x y => (y ∈ pairsOf (webOf n ps) ∧ ∃ j, j < i ∧ ∃ g, gs[j]? = some (x, g)) ∨ (x = webOf n F ∧ y ∈ (pairsOf (webOf n ps)).take (j + 1))) lgs' := fun lgs' z => z.mono fun x y q => by
            rcases q with q | ⟨q1, q2⟩
            · exact .inl (.inl q)
            · rw [List.take_add_one, hej, List.mem_append] at q2
              rcases q2 with q2 | q2
              · exact .inl (.inr ⟨q1, q2⟩)
              · exact .inr ⟨q1, List.mem_singleton.mp q2⟩
          have hcn : gu = gv ↔ cn F u v := by
            have := hlab.2 u v hun hvn
            rw [hgu, hgv] at this
            exact ⟨fun z => this.mp (by rw [z]), fun z => Option.some.inj (this.mpr z)⟩
          by_cases c : gu = gv
          · rw [show decide (vi gu = vi gv) = true from decide_eq_true (by rw [c])]
            exact iteF ⟨lat, lgs, _, _, _, _, _, rfl, sm4, hd4, D4, hG4, DL4, hGL4, t4, hpl4, stp _ (hL4.skip okc hF (hcn.mp c))⟩
          · have hvi : ¬ vi gu = vi gv := fun z => c (by have := V.int.inj z; omega)
            rw [show decide (vi gu = vi gv) = false from decide_eq_false hvi]
            refine iteT ?_
            -- there = web_by(..)
            have hW4 := same_sqT sm4 hW
            have hb4 := hb3.ts t4
            refine ⟨_, rfl, a, vs, rfl, .inr hW4, _, rfl, _, n, F, rfl, hb4, by omega, fun H5 p5 xs5 s5 hp5 hx5 pp5 => ⟨p5, xs5, rfl, .inr (.inl (.inl hx5)), _, rfl, _, rfl, by show 2 ≤ sizeLine; decide, fun t6 ht6 => ⟨?_, fun l7 hl7 => ?_⟩⟩⟩
            · have := Paired.length pp5
              have h10 := edges_len (pairsOf_nodup (n := n) (ps := F)) (pairsOf_ok (hF.ok okc)) h5
              rw [List.length_append, List.length_singleton]
              exact Nat.le_of_lt (small1000 (by omega))
            · have okF := hF.ok okc
              have h10 := edges_len (pairsOf_nodup (n := n) (ps := F)) (pairsOf_ok okF) h5
              have hmG : ∀ p, p ∈ pairsOf (webOf n F) ++ [(u, v)] ↔ p ∈ (u, v) :: F := fun p => by
                rw [List.mem_append, mem_pairsOf okF, List.mem_singleton, List.mem_cons]; exact Or.comm
              have okG : OkE n (pairsOf (webOf n F) ++ [(u, v)]) := fun p hp => by
                rcases List.mem_cons.mp ((hmG p).mp hp) with rfl | hp
                · exact huv
                · exact okF p hp
              have s6 : Same H4 (upd H5 t6 (.tup [vi u, vi v])) := s5.trans (same_new ht6)
              have s7 : Same H4 (upd (upd H5 t6 (.tup [vi u, vi v])) l7 (.lst (xs5 ++ [.ref t6]))) := s6.trans (same_new hl7)
              have h67 : t6 ≠ l7 := ne_of_none (o := .tup [vi u, vi v]) upd_same hl7
              have tpp : Tst H5 (upd (upd H5 t6 (.tup [vi u, vi v])) l7 (.lst (xs5 ++ [.ref t6]))) := .of ((same_new ht6).trans (same_new hl7))
              refine ⟨.ref l7, n, _, by rw [hlen]; rfl, ⟨l7, _, rfl, .inl (.inl upd_same), Paired.snoc (Paired.mapP pp5 fun _ _ z => z.ts tpp) ⟨t6, rfl, .inl (.inl (by rw [upd_ne h67, upd_same]))⟩⟩, okG, by omega, by rw [List.length_append, List.length_singleton]; omega, fun H8 u8 s8 hu8 => ?_⟩
              -- old, new
              have s48 := s7.trans s8
              have t48 : Tst H4 H8 := .of s48
              have hga8 := t48.sqT hga4
              refine ⟨_, rfl, _, rfl, ga, _, u, vi gu, rfl, rfl, hga8, atI_nat hmu, _, rfl, _, rfl, ga, _, v, vi gv, rfl, rfl, hga8, atI_nat hmv, _, _, rfl, ?_⟩
              refine ⟨_, rfl, _, rfl, ga, _, u, vi gu, rfl, rfl, hga8, atI_nat hmu, _, rfl, _, rfl, ga, _, v, vi gv, rfl, rfl, hga8, atI_nat hmv, _, _, rfl, by show 2 ≤ sizeLine; decide, fun t9 ht9 => ?_⟩
              obtain ⟨o, nw, eo, en, hon⟩ : ∃ o nw : Nat, (if (gv : Int) > (gu : Int) then (gv : Int) else (gu : Int)) = (o : Int) ∧ (if (gv : Int) < (gu : Int) then (gv : Int) else (gu : Int)) = (nw : Int) ∧ ((o = gu ∧ nw = gv) ∨ (o = gv ∧ nw = gu)) := by
                by_cases z : (gv : Int) > (gu : Int)
                · exact ⟨gv, gu, by rw [if_pos z], by rw [if_neg (by omega)], .inr ⟨rfl, rfl⟩⟩
                · exact ⟨gu, gv, by rw [if_neg z], by rw [if_pos (by omega)], .inl ⟨rfl, rfl⟩⟩
              rw [eo, en]
              have s9 : Same H8 (upd H8 t9 (.tup [vi o, vi nw])) := same_new ht9
              refine ⟨t9, [vi o, vi nw], rfl, .inl (.inl upd_same), rfl, vi o, [vi nw], rfl, vi nw, [], rfl, rfl, ?_⟩
              have hga9 := same_sqT s9 hga8
              refine ⟨_, rfl, ga, rfl, ⟨_, hga9⟩, fun D9 hD9 => lcm_tup (K := K) (fun i H y => ∃ x, (relab o nw g)[i]? = some x ∧ y = vi x) (fun _ => true) (fun _ _ _ _ _ z => z) hD9 hga9 (by rw [List.length_map, hlab.1]; exact Nat.le_of_lt (small1000 (by omega))) ?_ ?_⟩
              · intro i' y hy
                obtain ⟨m, hm, rfl⟩ := map_at hy
                refine lct_yes fun H10 s10 Qt q10 => ?_
                refine ⟨_, rfl, _, rfl, rfl, _, rfl, ?_⟩
                have hrel : (relab o nw g)[i']? = some (if m = o then nw else m) := by unfold relab; rw [List.getElem?_map, hm]; rfl
                by_cases z : m = o
                · rw [show decide (vi m = vi o) = true from decide_eq_true (by rw [z])]
                  rw [if_pos z] at hrel
                  exact iteT ⟨_, rfl, q10 _ _ (.refl _) ⟨_, hrel, rfl⟩⟩
                · rw [show decide (vi m = vi o) = false from decide_eq_false (fun q => z (by have := V.int.inj q; omega))]
                  rw [if_neg z] at hrel
                  exact iteF ⟨_, rfl, q10 _ _ (.refl _) ⟨_, hrel, rfl⟩⟩
              · intro H10 ys s10 hys pys
                rw [filter_all, List.length_map, show g.length = (relab o nw g).length by unfold relab; rw [List.length_map]] at pys
                have eys := paired_idx pys
                subst eys
                refine ⟨D9, _, rfl, .inl ⟨.inl (.inl hys), fun t11 ht11 => ?_⟩⟩
                have s11 : Same H4 (upd H10 t11 (.tup ((relab o nw g).map vi))) := s48.trans (s9.trans (s10.trans (same_new ht11)))
                have t11' : Tst H4 (upd H10 t11 (.tup ((relab o nw g).map vi))) := .of s11
                have s8' : Same H8 (upd H10 t11 (.tup ((relab o nw g).map vi))) := s9.trans (s10.trans (same_new ht11))
                obtain ⟨b8, vs8, rfl, hw8⟩ := id hu8
                have DL11 := DL4.same s11
                have hll : lat.length ≤ 1024 := by rw [Paired.length hGL4]; exact hL4.len hcl
                refine ⟨_, rfl, _, rfl, la, b8, _, lat, rfl, rfl, DL11, TW.ts (.of s8') hu8, lt1024 hll, fun es' ep' DL' => ?_⟩
                obtain ⟨esM, epM, hesM⟩ := DL11.at_
                have tM : Tst (upd H10 t11 (.tup ((relab o nw g).map vi))) (upd (upd H10 t11 (.tup ((relab o nw g).map vi))) la (dX la es' ep')) := .mut hesM trivial
                have hd11 : (upd (upd H10 t11 (.tup ((relab o nw g).map vi))) la (dX la es' ep')) d = (upd H10 t11 (.tup ((relab o nw g).map vi))) d := upd_ne hdla
                have t4M : Tst H4 (upd (upd H10 t11 (.tup ((relab o nw g).map vi))) la (dX la es' ep')) := t11'.trans tM
                refine ⟨_, Tr.put lgs (webOf n (pairsOf (webOf n F) ++ [(u, v)])) (relab o nw g), _, _, _, _, _, rfl, fun b' o' e' => ?_, ?_, ?_, hG4.ts t4M, DL', ?_, t4.trans t4M, ?_, stp _ (hL4.store csd okc hF hec (fun z => c (hcn.mpr z)) hmG (labOk_turn hlab hun hvn hgu hgv hon))⟩
                · rw [upd_ne (ne_of_none e' hla0)]
                  exact s11 _ _ (sm4 _ _ e')
                · rw [hd11]; exact s11 _ _ hd4
                · exact (D4.same s11).keep tM hd11
                · exact GV.put (hGL4.ts t4M) ⟨t11, rfl, tM.sqT (.inl (.inl upd_same))⟩
                · rw [upd_ne hplla.symm]; exact s11 _ _ hpl4
        · rintro σ H4 ⟨lat, lgs, y6, y7, y8, y9, y10, rfl, sm4, hd4, D4, hG4, DL4, hGL4, t4, hpl4, hL4⟩
          refine ⟨lat, lgs, _, _, _, _, _, _, _, rfl, sm4, hd4, D4, hG4, DL4, hGL4, hL4.mono fun x y ⟨hy, j, hj, g', hg'⟩ => ?_⟩
          by_cases c : j < i
          · exact .inl ⟨hy, j, c, g', hg'⟩
          · have : j = i := by omega
            subst this
            rw [hgi] at hg'
            cases hg'
            refine .inr ⟨rfl, ?_⟩
            rw [show xs.length = (pairsOf (webOf n ps)).length from Paired.length pp, List.take_length]
            exact hy
      · rintro σ H2 ⟨lat, lgs, y4, y5, y6, y7, y8, y9, y10, rfl, sm2, hd2, D2, hG2, DL, hGL, hL⟩
        refine ⟨_, rfl, la, lat, lgs, _, _, _, _, _, _, _, _, _, rfl, sm2, hla0, DL, hGL, hL.turned okc hT fun x y hx hy => ?_⟩
        obtain ⟨⟨x', g⟩, hm, rfl⟩ := List.mem_map.mp hx
        obtain ⟨j, hj⟩ := List.mem_iff_getElem?.mp hm
        exact ⟨hy, j, by rw [hgl]; exact (List.getElem?_eq_some_iff.mp hj).1, g, hj⟩
    · rintro σ H1 ⟨d, kvs, gs, y2, y3, y4, y5, y6, y7, y8, y9, y10, rfl, sm, hd, D, hG, hT⟩
      refine ⟨_, rfl, d, kvs, rfl, D, fun p ys hp pys => ?_⟩
      have sp : Same H1 (upd H1 p (.lst ys)) := same_new hp
      have snd : ∀ t ∈ kvs.map (·.1), ∃ F, t = webOf n F := fun t ht => by
        rw [hG.keys] at ht
        obtain ⟨⟨x, g⟩, hm, rfl⟩ := List.mem_map.mp ht
        obtain ⟨F, _, e, _⟩ := hT.sound _ _ hm
        exact ⟨F, e⟩
      refine ⟨p, ys, kvs.map (·.1), TW K (upd H1 p (.lst ys)), rfl, .inl (.inl upd_same), Paired.mapP pys fun _ _ z => TW.ts (.of sp) z, fun _ _ z => z.dp, ?_, .inl ?_, fun t _ => Nat.le_trans (depth_dW t) (by decide), fun p2 zs hp2 pz => ?_⟩
      · intro x hx y hy
        obtain ⟨t, _, rfl⟩ := List.mem_map.mp hx
        obtain ⟨t', _, rfl⟩ := List.mem_map.mp hy
        exact alike_dW t t'
      · intro x hx
        obtain ⟨t, ht, rfl⟩ := List.mem_map.mp hx
        obtain ⟨F, rfl⟩ := snd t ht
        exact ty_dW h1
      · refine q _ p2 zs (sm.trans (sp.trans (same_new hp2))) (sm.free (sp.free hp2)) upd_same ?_
        rw [le_dW, hG.keys, treesOf_eq (turned_end h1 csd okc hT)] at pz
        exact Paired.mapP pz fun _ _ z => TW.ts (.new hp2) z.2
end
end Tr

/-! trees, count_trees_in, most_leaves, fewest_leaves, common_pairs. -/
namespace Tr
open PySem PySem.Spec PyProof.Rows L2
/-! ### the least of pairs -/
def encZ (κ : Web → Int) (t : Web) : PyData := .tuple [.int (κ t), dW t]
theorem dW_inj {s t : Web} (h : dW s = dW t) : s = t := by
  have e := eqv_dW s t
  rw [h, eqv_dW, decide_eq_true rfl] at e
  exact of_decide_eq_true e.symm
theorem encZ_inj {κ : Web → Int} {s t : Web} (h : encZ κ s = encZ κ t) : s = t := by
  unfold encZ at h
  injection h with h
  injection h with _ h
  injection h with h _
  exact dW_inj h
theorem depth_encZ (κ : Web → Int) (t : Web) : (encZ κ t).depth ≤ 8 := by
  have := depth_dW t
  simp only [encZ, PyData.depth, PyData.depthAll]
  omega
theorem lay_encZ (κ : Web → Int) (t : Web) : (encZ κ t).canLay0 = true := by
  simp [encZ, PyData.canLay0, PyData.canLayAll0, lay_dW t]
open PySem.W in
theorem alike_encZ (κ : Web → Int) (s t : Web) : alike (encZ κ s) (encZ κ t) = true := by
  have h := alike_dW s t
  simp [encZ, alike, alikeAll, h]
open PySem.W in
theorem lt_encZ (κ : Web → Int) (s t : Web) : dataLt (encZ κ s) (encZ κ t) = if κ s = κ t then (if s = t then false else ltW s t) else decide (κ s < κ t) := by
  unfold encZ
  rw [dataLt_tuple, dataLt_cons (by simp [alike]), dataLt_cons (alike_dW s t), eqv_dW, lt_dW, dataLt_int]
  have e1 : PyData.eqv (.int (κ s)) (.int (κ t)) = decide (κ s = κ t) := by
    simp only [PyData.eqv]
    rw [Bool.eq_iff_iff, beq_iff_eq, decide_eq_true_eq]
  rw [e1]
  simp only [decide_eq_true_eq]
  have e2 : PyProof.Rows.lexLt itemOrd (keyToksAll []) (keyToksAll []) = false := lex_irrefl _
  rw [e2]
theorem min_encZ (κ : Web → Int) : ∀ (rest : List Web) (a : Web), (a :: rest).Pairwise (fun x y => leW x y = true) → PySem.W.minD (encZ κ a) (rest.map (encZ κ)) = encZ κ (rest.foldl (fun a y => if κ y < κ a then y else a) a)
  | [], _, _ => rfl
  | y :: rest, a, h => by
    have hay : leW a y = true := (List.pairwise_cons.mp h).1 y List.mem_cons_self
    have hr := (List.pairwise_cons.mp h).2
    have ha : (a :: rest).Pairwise (fun x y => leW x y = true) := List.pairwise_cons.mpr ⟨fun z hz => (List.pairwise_cons.mp h).1 z (List.mem_cons_of_mem _ hz), (List.pairwise_cons.mp hr).2⟩
    have step : (if PySem.W.dataLt (encZ κ y) (encZ κ a) = true then encZ κ y else encZ κ a) = encZ κ (if κ y < κ a then y else a) := by
      rw [lt_encZ]
      by_cases c : κ y = κ a
      · have c2 : (if κ y < κ a then y else a) = a := if_neg (by rw [c]; exact Int.lt_irrefl _)
        rw [c2, if_pos c]
        by_cases d : y = a
        · rw [if_pos d, if_neg Bool.false_ne_true]
        · have : ltW y a = false := by
            have : (!ltW y a) = true := hay
            simpa using this
          rw [if_neg d, this, if_neg Bool.false_ne_true]
      · rw [if_neg c]
        by_cases d : κ y < κ a
        · rw [decide_eq_true d, if_pos rfl, if_pos d]
        · rw [decide_eq_false d, if_neg Bool.false_ne_true, if_neg d]
    show PySem.W.minD (if PySem.W.dataLt (encZ κ y) (encZ κ a) = true then encZ κ y else encZ κ a) (rest.map (encZ κ)) = encZ κ (rest.foldl _ (if κ y < κ a then y else a))
    rw [step]
    refine min_encZ κ rest _ ?_
    by_cases d : κ y < κ a
    · rw [if_pos d]; exact hr
    · rw [if_neg d]; exact ha
def kM (t : Web) : Int := -(leaves t : Int)
def kF (t : Web) : Int := (leaves t : Int)
theorem most_is {a c : Web} {rest : List Web} (h : (a :: rest).Pairwise (fun x y => leW x y = true)) (e : encZ kM c = PySem.W.minD (encZ kM a) (rest.map (encZ kM))) : ∃ j, IsMost leaves (a :: rest) j c := by
  rw [min_encZ kM rest a h] at e
  rw [encZ_inj e]
  have : (fun a y : Web => if kM y < kM a then y else a) = stepM leaves := by
    funext a y
    unfold stepM kM
    by_cases c : leaves a < leaves y
    · rw [if_pos c, if_pos (by omega)]
    · rw [if_neg c, if_neg (by omega)]
  rw [this]
  exact isMost_start leaves a rest
theorem few_is {a c : Web} {rest : List Web} (h : (a :: rest).Pairwise (fun x y => leW x y = true)) (e : encZ kF c = PySem.W.minD (encZ kF a) (rest.map (encZ kF))) : ∃ j, IsFew leaves (a :: rest) j c := by
  rw [min_encZ kF rest a h] at e
  rw [encZ_inj e]
  have : (fun a y : Web => if kF y < kF a then y else a) = stepF leaves := by
    funext a y
    unfold stepF kF
    by_cases c : leaves y < leaves a
    · rw [if_pos c, if_pos (by omega)]
    · rw [if_neg c, if_neg (by omega)]
  rw [this]
  exact isFew_start leaves a rest
theorem leaves_ix (t : Web) : ((List.range t.length).filter fun i => decide ((t.getD i []).length = 1)).length = leaves t := by
  unfold leaves
  conv => rhs; rw [← range_getD [] t]
  rw [List.filter_map, List.length_map]
  rfl
theorem paired_getm {β : Type} (d : β) {R : V → β → Prop} {ys : List V} {l : List β} (h : Paired (fun y i => ∃ t, l[i]? = some t ∧ R y t) ys (List.range l.length)) : Paired R ys l := by
  have := paired_mapr (f := fun i => l.getD i d) (R := R) (paired_mem h fun y i _ ⟨t, ht, r⟩ => by
    rw [List.getD_eq_getElem?_getD, ht]; exact r)
  rwa [range_getD] at this
theorem paired_eq {β : Type} {f : β → V} : ∀ {ys : List V} {l : List β}, Paired (fun y t => y = f t) ys l → ys = l.map f
  | _, _, .nil => rfl
  | _, _, .cons r t => by rw [r, List.map_cons, paired_eq t]
theorem conn_pairs {n : Nat} {ps : List Edge} (ok : OkE n ps) (c : Conn n ps) : Conn n (pairsOf (webOf n ps)) := fun u v hu hv => cn_mono (fun e he => (mem_pairsOf ok e).mpr he) (c u v hu hv)
theorem trees_some {n : Nat} {ps : List Edge} (hn : 1 ≤ n) (ok : OkE n ps) (c : Conn n ps) : treesOf n (pairsOf (webOf n ps)) ≠ [] := treesOf_some (cands_some hn pairsOf_nodup (pairsOf_ok ok) (conn_pairs ok c))
theorem trees_len {n : Nat} {ps : List Edge} (ok : OkE n ps) (h5 : n ≤ 5) : (treesOf n (pairsOf (webOf n ps))).length ≤ 1024 := by
  have okc := pairsOf_ok ok
  have nd : (treesOf n (pairsOf (webOf n ps))).Nodup := (List.mergeSort_perm _ _).symm.nodup (cands_nodup pairsOf_nodup okc)
  refine keys_len (n := n) (k := n - 1) nd (edges_len (n := n) pairsOf_nodup okc h5) fun t ht => ?_
  obtain ⟨F, h1, h2, h3, e⟩ := mem_cands.mp (mem_treesOf.mp ht)
  have okF : OkE n F := okc.sub fun p hp => h1.subset hp
  exact ⟨F, ⟨h1, by omega, (forest_conn (by omega) okF h2).mpr ((conn_iff (by omega) okF).mpr h3)⟩, e⟩
section
variable {K : PySem.W.Frag}
/-- a number and a web -/
def TE2 (K : PySem.W.Frag) (κ : Web → Int) (H : Hp) (y : V) (t : Web) : Prop := ∃ q v, y = .ref q ∧ SqT K H q [.int (κ t), v] ∧ TW K H v t
theorem TE2.ts {κ : Web → Int} {H H' : Hp} {y : V} {t : Web} (s : Tst H H') (h : TE2 K κ H y t) : TE2 K κ H' y t := let ⟨q, v, e, a, b⟩ := h; ⟨q, v, e, s.sqT a, b.ts s⟩
theorem TE2.dp {κ : Web → Int} {H : Hp} {y : V} {t : Web} (h : TE2 K κ H y t) : Dp K H y (encZ κ t) := by
  obtain ⟨q, v, rfl, a, b⟩ := h
  exact .tup a (.cons (.int _) (.cons b.dp .nil))
/-- [1 for some in tree if len(some) == 1] -/
theorem leaf_lc {te : TE} {j m : Nat} {σ : L2.St} {H : Hp} {Q : VK} {v : V} {t : Web} (hm : m < σ.length) (hj : σ[j]? = some (some v)) (hv : TW K H v t) (hn : t.length ≤ 1000)
    (ht : ∀ (x : V) (σ' : L2.St) (H' : Hp) (Qt : VK), σ'[m]? = some (some x) → (∀ y, Qt y H') → te σ' H' Qt)
    (k : ∀ H' D xs, Same H H' → H' D = some (.lst xs) → xs.length = leaves t → Q (.ref D) H') : tLc (iTup K (tVar j)) (gName m) (tTest (tOp rEq (tCB (rLenOf K) (tCons (tVar m) tNil)) (tC (V.int 1)))) te [m] σ H Q := by
  obtain ⟨a, vs, rfl, hs, hp⟩ := id hv
  have hl : vs.length = t.length := Paired.length hp
  have hw : ∀ x : V, ((wipe σ [m]).set m (some x))[m]? = some (some x) := fun x => by
    rw [List.getElem?_set_self]
    rw [wipe_length]; exact hm
  refine ⟨_, hj, a, rfl, ⟨_, hs⟩, fun D hD => lcm_tup (K := K) (fun _ _ _ => True) (fun i => decide ((t.getD i []).length = 1)) (fun _ _ _ _ _ z => z) hD hs (by rw [hl]; exact Nat.le_of_lt (small1000 hn)) (fun i x hx H2 s2 Qf Qt qf qt => ?_) fun H2 ys s2 hys pys => ?_⟩
  · obtain ⟨r, hr, l, rfl, hl⟩ := L2.paired_get hp hx
    have er : t.getD i [] = r := by rw [List.getD_eq_getElem?_getD, hr]; rfl
    refine ⟨_, hw _, l, _, rfl, .inr (same_sqT s2 hl), rfl, _, rfl, ?_⟩
    rw [List.length_map]
    have kf : (fun i => decide ((t.getD i []).length = 1)) i = decide (r.length = 1) := by
      show decide ((t.getD i []).length = 1) = _
      rw [er]
    by_cases c : r.length = 1
    · rw [show decide (V.int (r.length : Int) = V.int 1) = true from decide_eq_true (by rw [c]; rfl)]
      exact iteT (ht _ _ _ _ (hw _) fun y => qt (kf.trans (decide_eq_true c)) y H2 (.refl _) True.intro)
    · rw [show decide (V.int (r.length : Int) = V.int 1) = false from decide_eq_false fun z => c (by have := V.int.inj z; omega)]
      exact iteF (qf (kf.trans (decide_eq_false c)) H2 (.refl _))
  · refine k H2 D ys s2 hys ?_
    rw [Paired.length pys, hl, leaves_ix]
/-- what these five ask of a web -/
def Ask (K : PySem.W.Frag) (H : Hp) (v : V) (n : Nat) (ps : List Edge) : Prop := TW K H v (webOf n ps) ∧ OkE n ps ∧ Conn n ps ∧ 1 ≤ n ∧ n ≤ 5
abbrev TT (n : Nat) (ps : List Edge) : List Web := treesOf n (pairsOf (webOf n ps))
def spTrees (K : PySem.W.Frag) : Sp := fun vs H Q _ => ∃ (v : V) (n : Nat) (ps : List Edge), vs = [v] ∧ Ask K H v n ps ∧ ∀ H' p xs, Same H H' → H' p = some (.lst xs) → Paired (TW K H') xs (TT n ps) → Q (.ref p) H'
def spCountTrees (K : PySem.W.Frag) : Sp := fun vs H Q _ => ∃ (v : V) (n : Nat) (ps : List Edge), vs = [v] ∧ Ask K H v n ps ∧ ∀ H', Same H H' → Q (vi (TT n ps).length) H'
def spMost (K : PySem.W.Frag) : Sp := fun vs H Q _ => ∃ (v : V) (n : Nat) (ps : List Edge), vs = [v] ∧ Ask K H v n ps ∧ ∀ H' y x b i, Same H H' → IsT K H' y [vi (leaves b), x] → TW K H' x b → IsMost leaves (TT n ps) i b → Q y H'
def spFew (K : PySem.W.Frag) : Sp := fun vs H Q _ => ∃ (v : V) (n : Nat) (ps : List Edge), vs = [v] ∧ Ask K H v n ps ∧ ∀ H' y x b i, Same H H' → IsT K H' y [vi (leaves b), x] → TW K H' x b → IsFew leaves (TT n ps) i b → Q y H'
def spCommon (K : PySem.W.Frag) : Sp := fun vs H Q _ => ∃ (v : V) (n : Nat) (ps : List Edge), vs = [v] ∧ Ask K H v n ps ∧ ∀ H' t xs, Same H H' → SqT K H' t xs → Paired (TP K H') xs (commonOf (pairsOf (webOf n ps)) (TT n ps)) → Q (.ref t) H'
end
section
variable {P : Program} {w : World} {K : PySem.W.Frag} {mg : Str → Option Value} {base : Heap}
abbrev sTrees : Stmt := topS 19
theorem sc19 : FnScope ["web"] ["web"] (defScope sTrees) := ⟨rfl, rfl, rfl, by decide +kernel, rfl, by decide +kernel, by decide +kernel⟩
theorem ok_trees {f : Addr} {fd : FuncData} (F : Fun K "trees" "trees" sTrees f fd) (GN : Has P w K mg base 4 "need_group" ["web"] (spNeedGroup K)) (GT : Has P w K mg base 2 "trees_in" ["web"] (spTreesIn K)) : FnOk P w K mg base CX0 5 f fd ["web"] (spTrees K) := by
  refine F.ok sc19 (fun vs H Q E h => ?_) (fun cdv A outer s H vs Q E hr h => ?_)
  · obtain ⟨v, n, ps, rfl, _⟩ := h
    rfl
  · obtain ⟨v, n, ps, rfl, ⟨hw, ok, hc, h1, h5⟩, q⟩ := h
    refine ⟨_, pss_cons (ps_expr (pe_has GN hr (pa_cons (pv 0) pa_nil))) (pss_one (ps_ret (pe_has GT (hr.mono (by decide)) (pa_cons (pv 0) pa_nil)))), ?_⟩
    refine ⟨_, rfl, _, n, ps, rfl, hw, ok, hc, h1, by omega, fun H1 s1 => ?_⟩
    exact ⟨_, rfl, _, n, ps, rfl, hw.ts (.of s1), ok, hc, h1, h5, fun H2 p xs s2 _ hp pp => q _ _ _ (s1.trans s2) hp pp⟩
abbrev sCountTrees : Stmt := topS 20
theorem sc20 : FnScope ["web"] ["web"] (defScope sCountTrees) := ⟨rfl, rfl, rfl, by decide +kernel, rfl, by decide +kernel, by decide +kernel⟩
theorem ok_count {f : Addr} {fd : FuncData} (F : Fun K "count_trees_in" "count_trees_in" sCountTrees f fd) (S : Std mg) (GN : Has P w K mg base 4 "need_group" ["web"] (spNeedGroup K)) (GT : Has P w K mg base 2 "trees_in" ["web"] (spTreesIn K)) : FnOk P w K mg base CX0 5 f fd ["web"] (spCountTrees K) := by
  refine F.ok sc20 (fun vs H Q E h => ?_) (fun cdv A outer s H vs Q E hr h => ?_)
  · obtain ⟨v, n, ps, rfl, _⟩ := h
    rfl
  · obtain ⟨v, n, ps, rfl, ⟨hw, ok, hc, h1, h5⟩, q⟩ := h
    refine ⟨_, pss_cons (ps_expr (pe_has GN hr (pa_cons (pv 0) pa_nil))) (pss_one (ps_ret (pe_lenOf K S.len (pa_cons (pe_has GT (hr.mono (by decide)) (pa_cons (pv 0) pa_nil)) pa_nil)))), ?_⟩
    refine ⟨_, rfl, _, n, ps, rfl, hw, ok, hc, h1, by omega, fun H1 s1 => ?_⟩
    refine ⟨_, rfl, _, n, ps, rfl, hw.ts (.of s1), ok, hc, h1, h5, fun H2 p xs s2 _ hp pp => ⟨p, xs, rfl, .inl (.inl (.inl hp)), ?_⟩⟩
    have := q _ (s1.trans s2)
    rw [← Paired.length pp] at this
    exact this
abbrev sMost : Stmt := topS 21
abbrev nMo : List Str := ["web", "tree", "many", "some"]
abbrev moScope : Scope := { kind := .function, names := [(".0", .local), ("tree", .local), ("len", .globalImplicit)], isGenerator := false, isCoroutine := false }
theorem sc21 : FnScope nMo ["web"] (defScope sMost) := ⟨rfl, rfl, rfl, by decide +kernel, rfl, by decide +kernel, by decide +kernel⟩
theorem ok_most {f : Addr} {fd : FuncData} (F : Fun K "most_leaves" "most_leaves" sMost f fd) (S : Std mg) (GN : Has P w K mg base 4 "need_group" ["web"] (spNeedGroup K)) (GT : Has P w K mg base 2 "trees_in" ["web"] (spTreesIn K)) : FnOk P w K mg base CX0 5 f fd ["web"] (spMost K) := by
  have nd := sc21.nd
  refine F.ok sc21 (fun vs H Q E h => ?_) (fun cdv A outer s H vs Q E hr h => ?_)
  · obtain ⟨v, n, ps, rfl, _⟩ := h
    rfl
  · obtain ⟨v, n, ps, rfl, ⟨hw, ok, hc, h1, h5⟩, q⟩ := h
    refine ⟨_, pss_cons (ps_expr (pe_has GN hr (pa_cons (pv 0) pa_nil)))
      (pss_cons (ps_asg (pe_callB (cr_minD (enc := encZ kM) rfl hr.units) (by rfl) S.min (by decide +kernel) (pa_cons
          (pe_lc (own := [("tree", 1)]) (g := gName 1) (tt := tYes) rfl nd (pi_list (pe_has GT (hr.mono (by decide)) (pa_cons (pv 0) pa_nil))) (blkOk_by (own := [("tree", 1)]) (N := nMo) (sc := defScope sMost) (by decide +kernel))
            (fun _ _ _ _ _ => pg_name (i := 1) nd rfl (.inl rfl)) (fun _ _ _ _ _ => pts_nil) (fun _ _ _ _ _ => pe_tup (pa_cons (pe_un un_neg (pe_lenOf K S.len (pa_cons
              (pe_lc (own := [("some", 3)]) (g := gName 3) (wi := iTup K (tVar 1)) rfl nd (pi_tup (pv 1)) (blkOk_by (own := [("some", 3)]) (N := nMo) (sc := moScope) (scope := { kind := .function, names := [(".0", .local), ("some", .local), ("len", .globalImplicit)], isGenerator := false, isCoroutine := false }) (by decide +kernel))
                (fun _ _ _ _ _ => pg_name (i := 3) nd rfl (.inl rfl)) (fun _ _ _ _ _ => pts_one (pt_cmpR op_eq (pe_lenOf K S.len (pa_cons (pv 3) pa_nil)) pe_int (nomark _))) (fun _ _ _ _ _ => pe_int)) pa_nil))) (pa_cons (pv 1) pa_nil)))) pa_nil))
        (pg_tup rfl (pgs_cons (pg_name (i := 2) nd rfl (.inl rfl)) (pgs_cons (pg_name (i := 1) nd rfl (.inl rfl)) pgs_nil))))
      (pss_one (ps_ret (pe_tup (pa_cons (pe_un un_neg (pv 2)) (pa_cons (pv 1) pa_nil)))))), ?_⟩
    refine ⟨_, rfl, _, n, ps, rfl, hw, ok, hc, h1, by omega, fun H1 s1 => ?_⟩
    refine ⟨_, rfl, _, n, ps, rfl, hw.ts (.of s1), ok, hc, h1, h5, fun H2 p xs s2 _ hp pp => ?_⟩
    have hne : TT n ps ≠ [] := trees_some h1 ok hc
    have hlx : xs.length = (TT n ps).length := Paired.length pp
    have htl := trees_len ok h5
    have hlx2 : xs.length ≤ 1024 := by rw [hlx]; exact htl
    refine ⟨p, rfl, ⟨_, .inl (.inl hp)⟩, fun D hD => lcm_list (K := K) (fun i H y => ∃ t, (TT n ps)[i]? = some t ∧ TE2 K kM H y t) (fun _ => true) (fun _ _ _ _ t ⟨x, h1, h2⟩ => ⟨x, h1, h2.ts t⟩) hD (.inl (.inl hp)) (Nat.le_of_lt (lt1024 hlx2)) ?_ ?_⟩
    · intro i x hx
      obtain ⟨t, hti, hxt⟩ := L2.paired_get pp hx
      obtain ⟨F, _, _, _, et⟩ := mem_cands.mp (mem_treesOf.mp (List.mem_of_getElem? hti))
      refine lct_yes fun H3 s3 Qt q3 => ?_
      dsimp only [tTup, tCons, tUn, tCB]
      refine leaf_lc (m := 3) (j := 1) (t := t) (v := x) ?_ ?_ (hxt.ts (.of s3)) (by rw [et, webOf_length]; omega) (fun _ _ _ _ _ z => z _) fun H4 D4 ys4 s4 h4 l4 => ?_
      · exact (by decide : 3 < 4)
      · rfl
      refine ⟨D4, ys4, rfl, .inl (.inl (.inl h4)), ?_⟩
      have hx4 := hxt.ts (.of (s3.trans s4))
      refine ⟨_, rfl, _, rfl, by show 2 ≤ sizeLine; decide, fun t5 ht5 => q3 _ _ (s4.trans (same_new ht5)) ⟨t, hti, t5, x, rfl, .inl (.inl ?_), hx4.ts (.new ht5)⟩⟩
      rw [upd_same, l4]
      rfl
    · intro H3 ys s3 hys pys
      rw [filter_all, hlx] at pys
      have pys2 := paired_getm [] pys
      revert pys2
      obtain ⟨b0, bs, eT⟩ := List.exists_cons_of_ne_nil hne
      intro pys2
      have srt := treesOf_sorted n (pairsOf (webOf n ps))
      rw [show treesOf n (pairsOf (webOf n ps)) = b0 :: bs from eT] at srt
      rw [eT] at pys2
      refine ⟨D, ys, b0, bs, rfl, .inl (.inl hys), Paired.mapP pys2 fun _ _ z => z.dp, ⟨fun x hx y hy => ?_, fun x hx => ?_⟩, lay_encZ _, depth_encZ _, fun i v c hv hcc he => ?_⟩
      · obtain ⟨t, _, rfl⟩ := List.mem_map.mp hx
        obtain ⟨t', _, rfl⟩ := List.mem_map.mp hy
        exact alike_encZ _ t t'
      · obtain ⟨t, _, rfl⟩ := List.mem_map.mp hx
        exact fun z => nomatch z
      · obtain ⟨c', hc', g, x, rfl, hg, hx⟩ := L2.paired_get pys2 hv
        rw [hcc] at hc'
        cases hc'
        obtain ⟨jj, hj⟩ := most_is srt he
        rw [← eT] at hj
        refine ⟨g, _, rfl, hg, rfl, _, _, rfl, _, _, rfl, rfl, ?_⟩
        refine ⟨_, rfl, _, rfl, _, rfl, by show 2 ≤ sizeLine; decide, fun t ht => q _ _ x c jj (s1.trans (s2.trans (s3.trans (same_new ht)))) ⟨t, rfl, .inl (.inl ?_)⟩ (hx.ts (.new ht)) hj⟩
        rw [upd_same]
        show some (HO.tup [V.int (- kM c), x]) = some (HO.tup [vi (leaves c), x])
        unfold kM
        rw [Int.neg_neg]
        rfl
abbrev sFew : Stmt := topS 22
abbrev nFe : List Str := ["web", "tree", "some"]
theorem sc22 : FnScope nFe ["web"] (defScope sFew) := ⟨rfl, rfl, rfl, by decide +kernel, rfl, by decide +kernel, by decide +kernel⟩
theorem ok_few {f : Addr} {fd : FuncData} (F : Fun K "fewest_leaves" "fewest_leaves" sFew f fd) (S : Std mg) (GN : Has P w K mg base 4 "need_group" ["web"] (spNeedGroup K)) (GT : Has P w K mg base 2 "trees_in" ["web"] (spTreesIn K)) : FnOk P w K mg base CX0 5 f fd ["web"] (spFew K) := by
  have nd := sc22.nd
  refine F.ok sc22 (fun vs H Q E h => ?_) (fun cdv A outer s H vs Q E hr h => ?_)
  · obtain ⟨v, n, ps, rfl, _⟩ := h
    rfl
  · obtain ⟨v, n, ps, rfl, ⟨hw, ok, hc, h1, h5⟩, q⟩ := h
    refine ⟨_, pss_cons (ps_expr (pe_has GN hr (pa_cons (pv 0) pa_nil)))
      (pss_one (ps_ret (pe_callB (cr_minD (enc := encZ kF) rfl hr.units) (by rfl) S.min (by decide +kernel) (pa_cons
          (pe_lc (own := [("tree", 1)]) (g := gName 1) (tt := tYes) rfl nd (pi_list (pe_has GT (hr.mono (by decide)) (pa_cons (pv 0) pa_nil))) (blkOk_by (own := [("tree", 1)]) (N := nFe) (sc := defScope sFew) (by decide +kernel))
            (fun _ _ _ _ _ => pg_name (i := 1) nd rfl (.inl rfl)) (fun _ _ _ _ _ => pts_nil) (fun _ _ _ _ _ => pe_tup (pa_cons (pe_lenOf K S.len (pa_cons
              (pe_lc (own := [("some", 2)]) (g := gName 2) (wi := iTup K (tVar 1)) rfl nd (pi_tup (pv 1)) (blkOk_by (own := [("some", 2)]) (N := nFe) (sc := moScope) (scope := { kind := .function, names := [(".0", .local), ("some", .local), ("len", .globalImplicit)], isGenerator := false, isCoroutine := false }) (by decide +kernel))
                (fun _ _ _ _ _ => pg_name (i := 2) nd rfl (.inl rfl)) (fun _ _ _ _ _ => pts_one (pt_cmpR op_eq (pe_lenOf K S.len (pa_cons (pv 2) pa_nil)) pe_int (nomark _))) (fun _ _ _ _ _ => pe_int)) pa_nil)) (pa_cons (pv 1) pa_nil)))) pa_nil)))), ?_⟩
    refine ⟨_, rfl, _, n, ps, rfl, hw, ok, hc, h1, by omega, fun H1 s1 => ?_⟩
    refine ⟨_, rfl, _, n, ps, rfl, hw.ts (.of s1), ok, hc, h1, h5, fun H2 p xs s2 _ hp pp => ?_⟩
    have hne : TT n ps ≠ [] := trees_some h1 ok hc
    have hlx : xs.length = (TT n ps).length := Paired.length pp
    have htl := trees_len ok h5
    have hlx2 : xs.length ≤ 1024 := by rw [hlx]; exact htl
    refine ⟨p, rfl, ⟨_, .inl (.inl hp)⟩, fun D hD => lcm_list (K := K) (fun i H y => ∃ t, (TT n ps)[i]? = some t ∧ TE2 K kF H y t) (fun _ => true) (fun _ _ _ _ t ⟨x, h1, h2⟩ => ⟨x, h1, h2.ts t⟩) hD (.inl (.inl hp)) (Nat.le_of_lt (lt1024 hlx2)) ?_ ?_⟩
    · intro i x hx
      obtain ⟨t, hti, hxt⟩ := L2.paired_get pp hx
      obtain ⟨F, _, _, _, et⟩ := mem_cands.mp (mem_treesOf.mp (List.mem_of_getElem? hti))
      refine lct_yes fun H3 s3 Qt q3 => ?_
      dsimp only [tTup, tCons, tUn, tCB]
      refine leaf_lc (m := 2) (j := 1) (t := t) (v := x) ?_ ?_ (hxt.ts (.of s3)) (by rw [et, webOf_length]; omega) (fun _ _ _ _ _ z => z _) fun H4 D4 ys4 s4 h4 l4 => ?_
      · exact (by decide : 2 < 3)
      · rfl
      refine ⟨D4, ys4, rfl, .inl (.inl (.inl h4)), ?_⟩
      have hx4 := hxt.ts (.of (s3.trans s4))
      refine ⟨_, rfl, by show 2 ≤ sizeLine; decide, fun t5 ht5 => q3 _ _ (s4.trans (same_new ht5)) ⟨t, hti, t5, x, rfl, .inl (.inl ?_), hx4.ts (.new ht5)⟩⟩
      rw [upd_same, l4]
      rfl
    · intro H3 ys s3 hys pys
      rw [filter_all, hlx] at pys
      have pys2 := paired_getm [] pys
      revert pys2
      obtain ⟨b0, bs, eT⟩ := List.exists_cons_of_ne_nil hne
      intro pys2
      have srt := treesOf_sorted n (pairsOf (webOf n ps))
      rw [show treesOf n (pairsOf (webOf n ps)) = b0 :: bs from eT] at srt
      rw [eT] at pys2
      refine ⟨D, ys, b0, bs, rfl, .inl (.inl hys), Paired.mapP pys2 fun _ _ z => z.dp, ⟨fun x hx y hy => ?_, fun x hx => ?_⟩, lay_encZ _, depth_encZ _, fun i v c hv hcc he => ?_⟩
      · obtain ⟨t, _, rfl⟩ := List.mem_map.mp hx
        obtain ⟨t', _, rfl⟩ := List.mem_map.mp hy
        exact alike_encZ _ t t'
      · obtain ⟨t, _, rfl⟩ := List.mem_map.mp hx
        exact fun z => nomatch z
      · obtain ⟨c', hc', g, x, rfl, hg, hx⟩ := L2.paired_get pys2 hv
        rw [hcc] at hc'
        cases hc'
        obtain ⟨jj, hj⟩ := few_is srt he
        rw [← eT] at hj
        exact q _ _ x c jj (s1.trans (s2.trans s3)) ⟨g, rfl, hg⟩ hx hj
end
end Tr

/-! common_pairs. -/
namespace Tr
open PySem PySem.Spec PyProof.Rows L2
theorem bl_map {β : Type} {f : β → Bool} {ys : List V} {l : List β} (h : Paired (fun y t => y = .bl (f t)) ys l) : ys = (l.map f).map V.bl := by
  rw [paired_eq (f := fun t => V.bl (f t)) h, List.map_map]; rfl
section
variable {P : Program} {w : World} {K : PySem.W.Frag} {mg : Str → Option Value} {base : Heap}
abbrev sCommon : Stmt := topS 23
abbrev nCo : List Str := ["web", "some", "found", "pair", "tree"]
theorem sc23 : FnScope nCo ["web"] (defScope sCommon) := ⟨rfl, rfl, rfl, by decide +kernel, rfl, by decide +kernel, by decide +kernel⟩
theorem ok_common {f : Addr} {fd : FuncData} (F : Fun K "common_pairs" "common_pairs" sCommon f fd) (S : Std mg) (GN : Has P w K mg base 4 "need_group" ["web"] (spNeedGroup K)) (GT : Has P w K mg base 2 "trees_in" ["web"] (spTreesIn K)) (GP : Has P w K mg base 1 "pairs_in" ["web"] (spPairsIn K)) :
    FnOk P w K mg base CX0 5 f fd ["web"] (spCommon K) := by
  have nd := sc23.nd
  refine F.ok sc23 (fun vs H Q E h => ?_) (fun cdv A outer s H vs Q E hr h => ?_)
  · obtain ⟨v, n, ps, rfl, _⟩ := h
    rfl
  · obtain ⟨v, n, ps, rfl, ⟨hw, ok, hc, h1, h5⟩, q⟩ := h
    refine ⟨_, pss_cons (ps_expr (pe_has GN hr (pa_cons (pv 0) pa_nil)))
      (pss_cons (ps_set (i := 1) nd rfl (.inl rfl) (pe_has GT (hr.mono (by decide)) (pa_cons (pv 0) pa_nil)))
      (pss_cons (ps_set (i := 2) nd rfl (.inl rfl) (pe_lst pa_nil))
      (pss_cons (ps_for PassesOwn.never rfl (pi_list (pe_has GP (hr.mono (by decide)) (pa_cons (pv 0) pa_nil))) (pg_name (i := 3) nd rfl (.inr rfl))
        (pss_one (ps_if (pt_val (pe_callB (cr_all rfl) (by rfl) S.all (by decide +kernel) (pa_cons (pe_lc (own := [("tree", 4)]) (g := gName 4) (tt := tYes) rfl nd (pi_list (pv 1)) (blkOk_by (own := [("tree", 4)]) (N := nCo) (sc := defScope sCommon) (by decide +kernel))
              (fun _ _ _ _ _ => pg_name (i := 4) nd rfl (.inl rfl)) (fun _ _ _ _ _ => pts_nil) (fun _ _ _ _ _ => pe_cmpR (r := rIn K false) op_in_seq (pe_ixT K (pv 3) pe_int) (pe_ixT K (pv 4) (pe_ixT K (pv 3) pe_int)) rfl)) pa_nil)))
          (pss_one (ps_expr (pe_bm PySem.F.plainAttrs_list PySem.F.slot_list_append PySem.F.type_list_append mt_append (pv 2) (pa_cons (pv 3) pa_nil)))) pss_nil)))
      (pss_one (ps_ret (pe_tupOf K S.tup (pa_cons (pv 2) pa_nil))))))), ?_⟩
    have okc := pairsOf_ok ok
    have hcl := edges_len (pairsOf_nodup (n := n) (ps := ps)) okc h5
    refine ⟨_, rfl, _, n, ps, rfl, hw, ok, hc, h1, by omega, fun H1 s1 => ?_⟩
    refine ⟨_, rfl, _, n, ps, rfl, hw.ts (.of s1), ok, hc, h1, h5, fun H2 p xs s2 _ hp pp => ?_⟩
    have hlx : xs.length = (TT n ps).length := Paired.length pp
    have hlx2 : xs.length ≤ 1024 := by rw [hlx]; exact trees_len ok h5
    refine ⟨Nat.zero_le _, fun fo hfo => ?_⟩
    have s3 := (s1.trans s2).trans (same_new (o := .lst []) hfo)
    have hfp : p ≠ fo := ne_of_none hp hfo
    have hfo0 := (s1.trans s2).free hfo
    refine ⟨_, rfl, _, n, ps, rfl, hw.ts (.of s3), by omega, fun H4 pl es s4 hpl hel pe => ?_⟩
    have hplfo : fo ≠ pl := ne_of_none (o := .lst []) upd_same hpl
    have hfo4 : H4 fo = some (.lst []) := s4 _ _ upd_same
    have hpp4 : p ≠ pl := ne_of_none (o := .lst xs) (by rw [upd_ne hfp]; exact hp) hpl
    refine ⟨pl, rfl, ⟨_, .inl (.inl hel)⟩, for_list (K := K) (xs := es) (fun j σ H5 => (∃ y3, σ = [some v, some (.ref p), some (.ref fo), y3, none]) ∧ Same H H5 ∧ Tst H4 H5 ∧ H5 p = some (.lst xs) ∧ H5 pl = some (.lst es) ∧ ∃ acc, H5 fo = some (.lst acc) ∧ Paired (TP K H5) acc (commonOf ((pairsOf (webOf n ps)).take j) (TT n ps)))
      ⟨⟨_, rfl⟩, s3.trans s4, .refl _, s4 _ _ (by rw [upd_ne hfp]; exact hp), hel, [], hfo4, by rw [List.take_zero]; exact .nil⟩ (fun j σ H5 _ z => .inl (.inl z.2.2.2.2.1)) ?_ ?_⟩
    · rintro j x σ H5 hj ⟨⟨y3, rfl⟩, sm, t5, hp5, hpl5, acc, hacc, pacc⟩
      obtain ⟨⟨u, v'⟩, hej, t, rfl, ht⟩ := L2.paired_get pe hj
      have huv := okc _ (List.mem_of_getElem? hej)
      have hun : u < n := Nat.lt_trans huv.1 huv.2
      have ht5 := t5.sqT ht
      have pp5 : Paired (TW K H5) xs (TT n ps) := Paired.mapP pp fun _ _ z => z.ts (((Tst.new hfo).trans (.of s4)).trans t5)
      refine ⟨_, rfl, p, rfl, ⟨_, .inl (.inl hp5)⟩, fun D hD => lcm_list (K := K) (fun i H y => ∃ t, (TT n ps)[i]? = some t ∧ y = .bl (decide (v' ∈ t.getD u []))) (fun _ => true) (fun _ _ _ _ _ z => z) hD (.inl (.inl hp5)) (Nat.le_of_lt (lt1024 hlx2)) ?_ ?_⟩
      · intro i y hy
        obtain ⟨tr, hti, hxt⟩ := L2.paired_get pp5 hy
        obtain ⟨F, _, _, _, et⟩ := mem_cands.mp (mem_treesOf.mp (List.mem_of_getElem? hti))
        refine lct_yes fun H6 s6 Qt q6 => ?_
        obtain ⟨b, ws, rfl, hb, hbp⟩ := hxt.ts (.of s6)
        have ht6 := same_sqT s6 ht5
        rw [et] at hbp
        obtain ⟨z, hz, l, rfl, hl⟩ := paired_at hbp (webOf_get F hun)
        refine ⟨_, rfl, t, _, 1, _, rfl, rfl, ht6, atI_nat (j := 1) rfl, _, rfl, _, rfl, t, _, 0, _, rfl, rfl, ht6, atI_nat (j := 0) rfl, b, _, u, _, rfl, rfl, hb, atI_nat hz, l, _, rfl, .inr hl, rfl, flat_vi _, q6 _ _ (.refl _) ⟨tr, hti, ?_⟩⟩
        show V.bl (inV (vi v') ((rowOf n F u).map vi)) = _
        rw [inV_vi, et, webOf_getD F hun]
      · intro H6 ys s6 hys pys
        rw [filter_all, hlx] at pys
        have ey := bl_map (paired_getm [] pys)
        have ht6 := same_sqT s6 ht5
        refine ⟨D, (TT n ps).map fun t => decide (v' ∈ t.getD u []), rfl, .inl (.inl (by rw [hys, ey])), _, rfl, ?_⟩
        have eall : (((TT n ps).map fun t => decide (v' ∈ t.getD u [])).all id) = (TT n ps).all fun t => decide (v' ∈ t.getD u []) := by rw [List.all_map]; rfl
        rw [eall]
        have stp : commonOf ((pairsOf (webOf n ps)).take (j + 1)) (TT n ps) = commonOf ((pairsOf (webOf n ps)).take j) (TT n ps) ++ (if ((TT n ps).all fun t => decide (v' ∈ t.getD u [])) = true then [(u, v')] else []) := by
          unfold commonOf
          rw [List.take_add_one, hej, List.filter_append]
          congr 1
          show List.filter _ [(u, v')] = _
          rw [List.filter_cons]
          rfl
        have hacc6 := s6 _ _ hacc
        have hfo6 : ∀ (o : HO), Same H (upd H6 fo o) := fun o b z e => by
          rw [upd_ne (ne_of_none e hfo0)]
          exact (sm.trans s6) _ _ e
        cases c : (TT n ps).all fun t => decide (v' ∈ t.getD u []) with
        | true =>
          rw [c, if_pos rfl] at stp
          have hj10 : j < 10 := by have := (List.getElem?_eq_some_iff.mp hej).1; omega
          have ha : acc.length ≤ j := by
            rw [Paired.length pacc]
            exact Nat.le_trans (List.length_filter_le _ _) (by rw [List.length_take]; exact Nat.min_le_left _ _)
          refine iteT ⟨_, rfl, .inl ⟨rfl, _, .inl (.inl hacc6)⟩, _, rfl, fo, _, _, rfl, rfl, hacc6, small1000 (by omega), ?_⟩
          have tU : Tst H6 (upd H6 fo (.lst (acc ++ [.ref t]))) := .lst hacc6
          have tA := (Tst.of s6).trans tU
          refine ⟨⟨_, rfl⟩, hfo6 _, t5.trans tA, by rw [upd_ne hfp]; exact s6 _ _ hp5, by rw [upd_ne hplfo.symm]; exact s6 _ _ hpl5, _, upd_same, ?_⟩
          rw [stp]
          exact Paired.snoc (Paired.mapP pacc fun _ _ z => z.ts tA) ⟨t, rfl, tA.sqT ht5⟩
        | false =>
          rw [c, if_neg Bool.false_ne_true, List.append_nil] at stp
          refine iteF ⟨⟨_, rfl⟩, sm.trans s6, t5.trans (.of s6), s6 _ _ hp5, s6 _ _ hpl5, acc, hacc6, ?_⟩
          rw [stp]
          exact Paired.mapP pacc fun _ _ z => z.ts (.of s6)
    · rintro σ H5 ⟨⟨y3, rfl⟩, sm, t5, hp5, hpl5, acc, hacc, pacc⟩
      rw [show es.length = (pairsOf (webOf n ps)).length from Paired.length pe, List.take_length] at pacc
      exact ⟨_, rfl, fo, acc, rfl, .inl ⟨.inl (.inl hacc), fun t ht => q _ t acc (sm.trans (same_new ht)) (.inl (.inl upd_same)) (Paired.mapP pacc fun _ _ z => z.ts (.new ht))⟩⟩
end
end Tr

/-! _law_taken, _law_pick. -/
namespace Tr
open PySem PySem.Spec PyProof.Rows L2
/-- all but r stands -/
def Bar (r : Addr) (H H' : Hp) : Prop := ∀ b o, b ≠ r → H b = some o → H' b = some o
theorem Bar.refl (r : Addr) (H : Hp) : Bar r H H := fun _ _ _ h => h
theorem Bar.trans {r : Addr} {H H1 H2 : Hp} (a : Bar r H H1) (b : Bar r H1 H2) : Bar r H H2 := fun c o n h => b c o n (a c o n h)
theorem Bar.of {r : Addr} {H H' : Hp} (s : Same H H') : Bar r H H' := fun b o _ h => s b o h
theorem Bar.upd (r : Addr) (H : Hp) (o : HO) : Bar r H (L2.upd H r o) := fun b x n h => by rw [upd_ne n]; exact h
def LRow (K : PySem.W.Frag) (H : Hp) (r sc : Addr) : Prop := ∃ (ns : List Int) (c : Nat) (mix rest : Int), H r = some (.lst [.ref sc, .int c, .int mix, .int rest]) ∧ SqL K H sc (ns.map V.int) ∧ 0 ≤ mix ∧ mix < 2147483647
theorem sql_upd {K : PySem.W.Frag} {H : Hp} {r sc x : Addr} {l : List V} {ns : List Int} {o : HO} (hr : H r = some (.lst (.ref x :: l))) (h : SqL K H sc (ns.map V.int)) : SqL K (upd H r o) sc (ns.map V.int) := by
  by_cases c : sc = r
  · subst c
    rcases h with (h | ⟨ob, h⟩) | h
    · rw [hr] at h
      injection h with h
      injection h with h
      cases ns with
      | nil => cases h
      | cons n ns => cases h
    · rw [hr] at h
      injection h with h
      cases h
    · exact .inr h
  · rcases h with (h | ⟨ob, h⟩) | h
    · exact .inl (.inl (by rw [upd_ne c]; exact h))
    · exact .inl (.inr ⟨ob, by rw [upd_ne c]; exact h⟩)
    · exact .inr h
theorem LRow.same {K : PySem.W.Frag} {H H' : Hp} {r sc : Addr} (h : LRow K H r sc) (s : Same H H') : LRow K H' r sc := by
  obtain ⟨ns, c, mix, rest, h1, h2, h3⟩ := h
  exact ⟨ns, c, mix, rest, s _ _ h1, s.seq h2, h3⟩
theorem LRow.at_ {K : PySem.W.Frag} {H : Hp} {r sc : Addr} (h : LRow K H r sc) : ∃ l, H r = some (.lst l) := let ⟨_, _, _, _, e, _⟩ := h; ⟨_, e⟩
theorem LRow.ne {K : PySem.W.Frag} {H : Hp} {r sc D : Addr} (h : LRow K H r sc) (hD : H D = none) : D ≠ r := fun z => by
  obtain ⟨l, e⟩ := h.at_
  rw [z] at hD
  exact ne_of_none e hD rfl
/-- changed at what is new -/
theorem LRow.mut {K : PySem.W.Frag} {H H' : Hp} {r sc D : Addr} {o : HO} (h0 : LRow K H r sc) (hD : H D = none) (h : LRow K H' r sc) : LRow K (upd H' D o) r sc := by
  have hDr := h0.ne hD
  obtain ⟨ns0, _, _, _, _, g0, _⟩ := h0
  obtain ⟨ns, c, mix, rest, g1, g2, g3⟩ := h
  by_cases z : sc = D
  · refine ⟨ns0, c, mix, rest, by rw [upd_ne hDr.symm]; exact g1, ?_, g3⟩
    rcases g0 with (g | ⟨ob, g⟩) | g
    · rw [z, hD] at g; cases g
    · rw [z, hD] at g; cases g
    · exact .inr g
  · refine ⟨ns, c, mix, rest, by rw [upd_ne hDr.symm]; exact g1, ?_, g3⟩
    rcases g2 with (g | ⟨ob, g⟩) | g
    · exact .inl (.inl (by rw [upd_ne z]; exact g))
    · exact .inl (.inr ⟨ob, by rw [upd_ne z]; exact g⟩)
    · exact .inr g
section
variable {P : Program} {w : World} {K : PySem.W.Frag} {mg : Str → Option Value} {base : Heap}
abbrev sTaken : Stmt := topS 25
abbrev nTk : List Str := ["_law_row", "_law_many", "_law_found", "_law_cell"]
theorem sc25 : FnScope nTk ["_law_row", "_law_many"] (defScope sTaken) := ⟨rfl, rfl, rfl, by decide +kernel, rfl, by decide +kernel, by decide +kernel⟩
def spTaken (K : PySem.W.Frag) : Sp := fun vs H Q _ => ∃ (r sc : Addr) (m : Nat), vs = [.ref r, vi m] ∧ LRow K H r sc ∧ 1 ≤ m ∧ m ≤ 1000 ∧ ∀ H' (t : Nat), Bar r H H' → LRow K H' r sc → t < m → Q (vi t) H'
theorem mod_nat {i : Int} {m : Nat} (h : 1 ≤ m) : ∃ t : Nat, i % (m : Int) = t ∧ t < m := by
  have h1 := Int.emod_nonneg i (b := (m : Int)) (by omega)
  have h2 := Int.emod_lt_of_pos i (b := (m : Int)) (by omega)
  exact ⟨(i % (m : Int)).toNat, by omega, by omega⟩
theorem ok_taken {f : Addr} {fd : FuncData} (F : Fun K "_law_taken" "_law_taken" sTaken f fd) (S : Std mg) : FnOk P w K mg base CX0 1 f fd ["_law_row", "_law_many"] (spTaken K) := by
  have nd := sc25.nd
  refine F.ok sc25 (fun vs H Q E h => ?_) (fun cdv A outer s H vs Q E hr h => ?_)
  · obtain ⟨r, sc, m, rfl, _⟩ := h
    rfl
  · obtain ⟨r, sc, m, rfl, ⟨ns, c, mix, rest, hr0, hsc, hm0, hm1⟩, h1, h2, q⟩ := h
    refine ⟨_, pss_cons (ps_if (pt_cmpR op_gt (pe_ixL K (pv 0) pe_int) pe_int (nomark _))
        (pss_cons (ps_set (i := 2) nd rfl (.inl rfl) (pe_op op_mod (pe_callTy call_int1 (by rfl) S.int (by decide +kernel) (pa_cons (pe_ixL K (pv 0) pe_int) pa_nil)) (pv 1)))
        (pss_cons (ps_asg (pe_op op_fdiv (pe_ixL K (pv 0) pe_int) (pv 1)) (pg_sub (pv 0) pe_int set_list))
        (pss_one (ps_ret (pv 2))))) pss_nil)
      (pss_cons (ps_asg (pe_op op_add (pe_ixL K (pv 0) pe_int) pe_int) (pg_sub (pv 0) pe_int set_list))
      (pss_cons (ps_if (pt_cmpR op_gt (pe_ixL K (pv 0) pe_int) (pe_lenOf K S.len (pa_cons (pe_ixL K (pv 0) pe_int) pa_nil)) (nomark _))
        (pss_cons (ps_asg (pe_op op_mod (pe_callTy call_int1 (by rfl) S.int (by decide +kernel) (pa_cons (pe_op op_add (pe_op op_mul (pe_ixL K (pv 0) pe_int) pe_int) pe_int) pa_nil)) pe_int) (pg_sub (pv 0) pe_int set_list))
        (pss_one (ps_ret (pe_op op_mod (pe_callTy call_int1 (by rfl) S.int (by decide +kernel) (pa_cons (pe_op op_fdiv (pe_ixL K (pv 0) pe_int) pe_int) pa_nil)) (pv 1))))) pss_nil)
      (pss_cons (ps_set (i := 3) nd rfl (.inl rfl) (pe_ixL K (pe_ixL K (pv 0) pe_int) (pe_op op_sub (pe_ixL K (pv 0) pe_int) pe_int)))
      (pss_cons (ps_asg (pe_op op_mod (pe_callTy call_int1 (by rfl) S.int (by decide +kernel) (pa_cons (pe_op op_add (pe_op op_add (pe_op op_mul (pe_ixL K (pv 0) pe_int) pe_int) (pv 3)) pe_int) pa_nil)) pe_int) (pg_sub (pv 0) pe_int set_list))
      (pss_cons (ps_if (pt_cmpR op_ge (pv 3) (pe_op op_pow pe_int pe_int) (nomark _))
        (pss_one (ps_asg (pe_op op_fdiv (pv 3) (pv 1)) (pg_sub (pv 0) pe_int set_list))) pss_nil)
      (pss_one (ps_ret (pe_op op_mod (pe_callTy call_int1 (by rfl) S.int (by decide +kernel) (pa_cons (pv 3) pa_nil)) (pv 1))))))))), ?_⟩
    have L : ∀ {H : Hp} {xs : List V}, H r = some (.lst xs) → SqL K H r xs := fun h => .inl (.inl h)
    have mm : (1 : Int) ≤ m ∧ (m : Int) ≤ 1000 := by omega
    refine ⟨_, rfl, r, _, 3, _, rfl, rfl, L hr0, atI_nat (j := 3) rfl, _, _, rfl, rfl, _, rfl, ite2 (fun _ => ?_) fun _ => ?_⟩
    · obtain ⟨t, et, ht⟩ := mod_nat (i := rest) h1
      refine ⟨_, rfl, r, _, 3, _, rfl, rfl, L hr0, atI_nat (j := 3) rfl, .inl ⟨_, rfl, _, rfl, _, _, rfl, rfl, by omega, ?_⟩⟩
      refine ⟨_, rfl, r, _, 3, _, rfl, rfl, L hr0, atI_nat (j := 3) rfl, _, rfl, _, _, rfl, rfl, ⟨by omega, by omega⟩, ?_⟩
      refine ⟨_, rfl, r, _, 3, 3, rfl, rfl, hr0, rfl, ?_⟩
      refine ⟨_, rfl, ?_⟩
      have := q (upd H r (.lst [.ref sc, .int c, .int mix, .int (rest / m)])) t (.upd _ _ _) ⟨ns, c, mix, _, upd_same, sql_upd hr0 hsc, hm0, hm1⟩ ht
      show Q (V.int (rest % (m : Int))) _
      rw [et]
      exact this
    · refine ⟨_, rfl, r, _, 1, _, rfl, rfl, L hr0, atI_nat (j := 1) rfl, _, _, rfl, rfl, _, rfl, r, _, 1, 1, rfl, rfl, hr0, rfl, ?_⟩
      have ec : (c : Int) + 1 = ((c + 1 : Nat) : Int) := by omega
      rw [show ([V.ref sc, V.int c, V.int mix, V.int rest].set 1 (V.int ((c : Int) + 1))) = [V.ref sc, V.int ((c + 1 : Nat) : Int), V.int mix, V.int rest] by rw [ec]; rfl]
      have hr1 : (upd H r (.lst [V.ref sc, V.int ((c + 1 : Nat) : Int), V.int mix, V.int rest])) r = _ := upd_same
      have hs1 := sql_upd (o := .lst [V.ref sc, V.int ((c + 1 : Nat) : Int), V.int mix, V.int rest]) hr0 hsc
      refine ⟨_, rfl, r, _, 1, _, rfl, rfl, L hr1, atI_nat (j := 1) rfl, _, rfl, r, _, 0, _, rfl, rfl, L hr1, atI_nat (j := 0) rfl, sc, _, rfl, .inl hs1, _, _, rfl, rfl, _, rfl, ite2 (fun _ => ?_) fun hle => ?_⟩
      · refine ⟨_, rfl, r, _, 2, _, rfl, rfl, L hr1, atI_nat (j := 2) rfl, _, _, rfl, rfl, .inl ⟨by omega, by omega⟩, _, _, rfl, rfl, .inl ⟨_, rfl, _, _, rfl, rfl, by show (0 : Int) < 2147483647; decide, ?_⟩⟩
        refine ⟨_, rfl, r, _, 2, 2, rfl, rfl, hr1, rfl, ?_⟩
        have hr2 : (upd (upd H r (.lst [V.ref sc, V.int ((c + 1 : Nat) : Int), V.int mix, V.int rest])) r (.lst [V.ref sc, V.int ((c + 1 : Nat) : Int), V.int ((mix * 48271 + 11) % 2147483647), V.int rest])) r = _ := upd_same
        have hs2 := sql_upd (o := .lst [V.ref sc, V.int ((c + 1 : Nat) : Int), V.int ((mix * 48271 + 11) % 2147483647), V.int rest]) hr1 hs1
        obtain ⟨t, et, ht⟩ := mod_nat (i := ((mix * 48271 + 11) % 2147483647) / 7) h1
        refine ⟨_, rfl, r, _, 2, _, rfl, rfl, L hr2, atI_nat (j := 2) rfl, _, _, rfl, rfl, ⟨by decide, by decide⟩, .inl ⟨_, rfl, _, rfl, _, _, rfl, rfl, by omega, ?_⟩⟩
        have := q _ t ((Bar.upd _ _ _).trans (.upd _ _ _)) ⟨ns, c + 1, _, rest, hr2, hs2, Int.emod_nonneg _ (by decide), Int.emod_lt_of_pos _ (by decide)⟩ ht
        show Q (V.int (((mix * 48271 + 11) % 2147483647) / 7 % (m : Int))) _
        rw [et]
        exact this
      · have hcl : c < ns.length := by
          have : ¬ (((c + 1 : Nat) : Int) > (ns.map V.int).length) := fun z => hle (decide_eq_true z)
          rw [List.length_map] at this
          omega
        have hcell : (ns.map V.int)[c]? = some (.int ns[c]) := by rw [List.getElem?_map, List.getElem?_eq_getElem hcl]; rfl
        refine ⟨_, rfl, r, _, 0, _, rfl, rfl, L hr1, atI_nat (j := 0) rfl, _, rfl, r, _, 1, _, rfl, rfl, L hr1, atI_nat (j := 1) rfl, _, _, rfl, rfl, sc, _, (c : Int), _, rfl, congrArg V.int (by omega), hs1, atI_nat hcell, ?_⟩
        generalize ns[c] = cell
        refine ⟨_, rfl, r, _, 2, _, rfl, rfl, L hr1, atI_nat (j := 2) rfl, _, _, rfl, rfl, .inl ⟨by omega, by omega⟩, _, rfl, _, _, rfl, rfl, _, _, rfl, rfl, .inl ⟨_, rfl, _, _, rfl, rfl, by show (0 : Int) < 2147483647; decide, ?_⟩⟩
        refine ⟨_, rfl, r, _, 2, 2, rfl, rfl, hr1, rfl, ?_⟩
        have hr2 : (upd (upd H r (.lst [V.ref sc, V.int ((c + 1 : Nat) : Int), V.int mix, V.int rest])) r (.lst [V.ref sc, V.int ((c + 1 : Nat) : Int), V.int ((mix * 48271 + cell + 11) % 2147483647), V.int rest])) r = _ := upd_same
        have hs2 := sql_upd (o := .lst [V.ref sc, V.int ((c + 1 : Nat) : Int), V.int ((mix * 48271 + cell + 11) % 2147483647), V.int rest]) hr1 hs1
        have hn := Int.emod_nonneg (mix * 48271 + cell + 11) (b := 2147483647) (by decide)
        have hl := Int.emod_lt_of_pos (mix * 48271 + cell + 11) (b := 2147483647) (by decide)
        obtain ⟨t, et, ht⟩ := mod_nat (i := cell) h1
        refine ⟨_, rfl, _, _, rfl, rfl, ⟨by decide, by decide, by decide⟩, _, _, rfl, rfl, _, rfl, ite2 (fun _ => ?_) fun _ => ?_⟩
        · refine ⟨_, rfl, _, rfl, _, _, rfl, rfl, ⟨by omega, by omega⟩, ?_⟩
          refine ⟨_, rfl, r, _, 3, 3, rfl, rfl, hr2, rfl, ?_⟩
          refine ⟨_, rfl, .inl ⟨_, rfl, _, rfl, _, _, rfl, rfl, by omega, ?_⟩⟩
          have := q (upd _ r (.lst [V.ref sc, V.int ((c + 1 : Nat) : Int), V.int ((mix * 48271 + cell + 11) % 2147483647), V.int (cell / m)])) t (((Bar.upd _ _ _).trans (.upd _ _ _)).trans (.upd _ _ _)) ⟨ns, c + 1, _, _, upd_same, sql_upd hr2 hs2, hn, hl⟩ ht
          show Q (V.int (cell % (m : Int))) _
          rw [et]
          exact this
        · refine ⟨_, rfl, .inl ⟨_, rfl, _, rfl, _, _, rfl, rfl, by omega, ?_⟩⟩
          have := q _ t ((Bar.upd _ _ _).trans (.upd _ _ _)) ⟨ns, c + 1, _, rest, hr2, hs2, hn, hl⟩ ht
          show Q (V.int (cell % (m : Int))) _
          rw [et]
          exact this
abbrev sPick : Stmt := topS 26
theorem sc26 : FnScope ["_law_row", "_law_kinds"] ["_law_row", "_law_kinds"] (defScope sPick) := ⟨rfl, rfl, rfl, by decide +kernel, rfl, by decide +kernel, by decide +kernel⟩
def spPick (K : PySem.W.Frag) : Sp := fun vs H Q _ => ∃ (r sc l : Addr) (xs : List V), vs = [.ref r, .ref l] ∧ LRow K H r sc ∧ H l = some (.lst xs) ∧ l ≠ r ∧ 1 ≤ xs.length ∧ xs.length ≤ 1000 ∧ ∀ H' (t : Nat) x, Bar r H H' → LRow K H' r sc → xs[t]? = some x → Q x H'
theorem ok_pick {f : Addr} {fd : FuncData} (F : Fun K "_law_pick" "_law_pick" sPick f fd) (S : Std mg) (G : Has P w K mg base 1 "_law_taken" ["_law_row", "_law_many"] (spTaken K)) : FnOk P w K mg base CX0 2 f fd ["_law_row", "_law_kinds"] (spPick K) := by
  refine F.ok sc26 (fun vs H Q E h => ?_) (fun cdv A outer s H vs Q E hr h => ?_)
  · obtain ⟨r, sc, l, xs, rfl, _⟩ := h
    rfl
  · obtain ⟨r, sc, l, xs, rfl, hR, hl, hlr, h1, h2, q⟩ := h
    refine ⟨_, pss_one (ps_ret (pe_ixL K (pv 1) (pe_has G hr (pa_cons (pv 0) (pa_cons (pe_lenOf K S.len (pa_cons (pv 1) pa_nil)) pa_nil))))), ?_⟩
    refine ⟨_, rfl, _, rfl, _, rfl, l, xs, rfl, .inl (.inl (.inl hl)), r, sc, xs.length, rfl, hR, h1, h2, fun H' t b R' ht => ?_⟩
    have hx : xs[t]? = some xs[t] := List.getElem?_eq_getElem ht
    exact ⟨l, xs, t, _, rfl, rfl, .inl (.inl (b _ _ hlr hl)), atI_nat hx, q H' t _ b R' hx⟩
end
end Tr

/-! _law_by. -/
namespace Tr
open PySem PySem.Spec PyProof.Rows L2
/-! ### dicts with people for keys -/
def addN (ks : List Nat) (n : Nat) : List Nat := if n ∈ ks then ks else ks ++ [n]
theorem mem_addN {ks : List Nat} {n x : Nat} : x ∈ addN ks n ↔ x = n ∨ x ∈ ks := by
  unfold addN
  by_cases c : n ∈ ks
  · rw [if_pos c]
    exact ⟨.inr, fun h => h.elim (fun e => e ▸ c) id⟩
  · rw [if_neg c, List.mem_append, List.mem_singleton]
    exact Or.comm
theorem nodup_addN {ks : List Nat} {n : Nat} (h : ks.Nodup) : (addN ks n).Nodup := by
  unfold addN
  by_cases c : n ∈ ks
  · rw [if_pos c]; exact h
  · rw [if_neg c, List.nodup_append]
    exact ⟨h, by simp, fun a ha b hb z => c (by rw [← List.mem_singleton.mp hb, ← z]; exact ha)⟩
def kI (n : Nat) : Key := Sum.inl (n : Int)
def KD (kvs : List (Key × V)) (ks : List Nat) : Prop := kvs.map (·.1) = ks.map kI
theorem kI_inj {a b : Nat} (h : kI a = kI b) : a = b := by
  unfold kI at h
  injection h with h
  exact Int.ofNat.inj h
theorem KD.len {kvs : List (Key × V)} {ks : List Nat} (h : KD kvs ks) : kvs.length = ks.length := by
  have := congrArg List.length h
  simpa using this
theorem KD.mem {kvs : List (Key × V)} {ks : List Nat} (h : KD kvs ks) (n : Nat) : kI n ∈ kvs.map (·.1) ↔ n ∈ ks := by
  rw [show kvs.map (·.1) = ks.map kI from h, List.mem_map]
  exact ⟨fun ⟨m, hm, e⟩ => kI_inj e ▸ hm, fun hm => ⟨n, hm, rfl⟩⟩
theorem any_key (kvs : List (Key × V)) (k : Key) : (kvs.any fun kv => decide (kv.1 = k)) = true ↔ k ∈ kvs.map (·.1) := by
  rw [List.any_eq_true, List.mem_map]
  exact ⟨fun ⟨p, hp, e⟩ => ⟨p, hp, of_decide_eq_true e⟩, fun ⟨p, hp, e⟩ => ⟨p, hp, decide_eq_true e⟩⟩
theorem KD.put {kvs : List (Key × V)} {ks : List Nat} (h : KD kvs ks) (n : Nat) (v : V) : KD (putK kvs (kI n) v) (addN ks n) := by
  unfold putK addN KD
  by_cases c : n ∈ ks
  · rw [if_pos c, if_pos ((any_key _ _).mpr ((h.mem n).mpr c)), List.map_map]
    refine Eq.trans (List.map_congr_left fun p _ => ?_) h
    show (if p.1 = kI n then (p.1, v) else p).1 = p.1
    split <;> rfl
  · rw [if_neg c, if_neg (fun z => c ((h.mem n).mp ((any_key _ _).mp z))), List.map_append, List.map_append]
    rw [show kvs.map (·.1) = ks.map kI from h]
    rfl
theorem KD.has {kvs : List (Key × V)} {ks : List Nat} (h : KD kvs ks) (n : Nat) : (valV kvs (kI n)).isSome = decide (n ∈ ks) := by
  rw [← valV_any, Bool.eq_iff_iff, any_key, h.mem, decide_eq_true_eq]
theorem KD.vals {kvs : List (Key × V)} {ks : List Nat} (h : KD kvs ks) : kvs.map (fun kv => kV kv.1) = ks.map vi := by
  rw [show (fun kv : Key × V => kV kv.1) = kV ∘ (·.1) from rfl, ← List.map_map, show kvs.map (·.1) = ks.map kI from h, List.map_map]
  rfl
structure DRows (H0 : Hp) (D : Addr) (ls : List Addr) (rows : Nat → List Nat) (H : Hp) : Prop where
  same : Same H0 H
  at_ : H D = some (.lst (ls.map V.ref))
  d0 : H0 D = none
  nin : D ∉ ls
  nd : ls.Nodup
  row : ∀ i l, ls[i]? = some l → (∃ kvs, H l = some (.dK kvs) ∧ KD kvs (rows i)) ∧ (rows i).Nodup ∧ H0 l = none
theorem DRows.keep {H0 : Hp} {D : Addr} {ls : List Addr} {rows : Nat → List Nat} {H H' : Hp} (h : DRows H0 D ls rows H) (s : Same H H') : DRows H0 D ls rows H' :=
  { h with same := h.same.trans s, at_ := s _ _ h.at_, row := fun i l q => let ⟨⟨kvs, e, k⟩, n, f⟩ := h.row i l q; ⟨⟨kvs, s _ _ e, k⟩, n, f⟩ }
theorem DRows.add {H0 : Hp} {D : Addr} {ls : List Addr} {rows : Nat → List Nat} {H : Hp} (h : DRows H0 D ls rows H) {v : Nat} {l : Addr} (hl : ls[v]? = some l) (u : Nat) (x : V) {kvs : List (Key × V)} (e : H l = some (.dK kvs)) :
    DRows H0 D ls (fun i => if i = v then addN (rows v) u else rows i) (upd H l (.dK (putK kvs (kI u) x))) where
  same := fun b o e => by rw [upd_ne (ne_of_none e (h.row _ _ hl).2.2)]; exact h.same _ _ e
  at_ := by
    have hne : D ≠ l := fun z => h.nin (by rw [z]; exact List.mem_of_getElem? hl)
    rw [upd_ne hne]; exact h.at_
  d0 := h.d0
  nin := h.nin
  nd := h.nd
  row := fun i l' hl' => by
    by_cases c : i = v
    · subst c
      have : l' = l := Option.some.inj (hl'.symm.trans hl)
      subst this
      obtain ⟨⟨kvs', e', k⟩, nd, f⟩ := h.row i _ hl
      rw [e] at e'
      cases e'
      simp only [if_true]
      exact ⟨⟨_, upd_same, k.put u x⟩, nodup_addN nd, f⟩
    · simp only [if_neg c]
      have hne : l' ≠ l := fun z => c (idx_inj h.nd hl' (by rw [z]; exact hl))
      rw [upd_ne hne]
      exact h.row _ _ hl'
section
variable {P : Program} {w : World} {K : PySem.W.Frag} {mg : Str → Option Value} {base : Heap}
abbrev sLawBy : Stmt := topS 28
abbrev nLb : List Str := ["_law_many", "_law_couples_here", "_law_found", "_law_one", "_law_other", "_law_person", "_law_own"]
theorem sc28 : FnScope nLb ["_law_many", "_law_couples_here"] (defScope sLawBy) := ⟨rfl, rfl, rfl, by decide +kernel, rfl, by decide +kernel, by decide +kernel⟩
def spLawBy (K : PySem.W.Frag) : Sp := fun vs H Q _ => ∃ (v : V) (n : Nat) (ps : List Edge), vs = [vi n, v] ∧ IsL K H v (TP K H) ps ∧ OkE n ps ∧ n ≤ 8 ∧
  ∀ H' u, Same H H' → TW K H' u (webOf n ps) → Q u H'
theorem ok_law_by {f : Addr} {fd : FuncData} (F : Fun K "_law_by" "_law_by" sLawBy f fd) (S : Std mg) : FnOk P w K mg base CX0 1 f fd ["_law_many", "_law_couples_here"] (spLawBy K) := by
  have nd := sc28.nd
  refine F.ok sc28 (fun vs H Q E h => ?_) (fun cdv A outer s H vs Q E hr h => ?_)
  · obtain ⟨v, n, ps, rfl, _⟩ := h
    rfl
  · obtain ⟨v, n, ps, rfl, ⟨a, vs, rfl, hL, hP⟩, ok, h8, q⟩ := h
    have hu := hu_of hr
    refine ⟨_, pss_cons (ps_setLc (i := 2) (own := [("_law_person", 5)]) (g := gName 5) (tt := tYes) (by rfl) nd rfl rfl (sw_true rfl rfl rfl (by decide +kernel)) (pi_range1 (by rfl) S.rng (pa_cons (pv 0) pa_nil)) (blkOk_by (own := [("_law_person", 5)]) (N := nLb) (sc := defScope sLawBy) (by decide +kernel))
        (fun _ _ _ _ _ => pg_name (i := 5) nd rfl (.inl rfl)) (fun _ _ _ _ _ => pts_nil) (fun _ _ _ _ _ => pe_dnewK))
      (pss_cons (ps_for PassesOwn.never rfl (pi_list (pv 1)) (pg_tup rfl (pgs_cons (pg_name (i := 3) nd rfl (.inl rfl)) (pgs_cons (pg_name (i := 4) nd rfl (.inl rfl)) pgs_nil)))
        (pss_cons (ps_dput hu (pe_ixL K (pv 2) (pv 3)) (pv 4) pe_bl rfl)
        (pss_one (ps_dput hu (pe_ixL K (pv 2) (pv 4)) (pv 3) pe_bl rfl))))
      (pss_one (ps_ret (pe_tupOf K S.tup (pa_cons (pe_lc (own := [("_law_own", 6)]) (g := gName 6) (tt := tYes) rfl nd (pi_list (pv 2)) (blkOk_by (own := [("_law_own", 6)]) (N := nLb) (sc := defScope sLawBy) (by decide +kernel))
        (fun _ _ _ _ _ => pg_name (i := 6) nd rfl (.inl rfl)) (fun _ _ _ _ _ => pts_nil) (fun _ _ _ _ _ => pe_tupOf K S.tup (pa_cons (pe_callB (r := rSorted K) cr_sorted (by rfl) S.srt (by decide +kernel) (pa_cons (pe_callTy (r := rListD) (call_list_dK rfl) (by rfl) S.lst (by decide +kernel) (pa_cons (pv 6) pa_nil)) pa_nil)) pa_nil))) pa_nil))))), ?_⟩
    have hps : vs.length = ps.length := Paired.length hP
    refine ⟨_, rfl, _, rfl, by show -(2 ^ 62 : Int) ≤ n; omega, by show (n : Int) < 2 ^ 62; omega, fun D hD => lc_range (lo := 0) (n := n) (fun i H' => ∃ ls, ls.length = i ∧ DRows H D ls (fun _ => []) H') ⟨[], rfl, same_new hD, upd_same, hD, by simp, List.nodup_nil, fun i l e => by simp at e⟩ ?_ ?_⟩
    · rintro i H' hi ⟨ls, hls, R⟩
      refine ⟨rfl, tyes ?_⟩
      intro l hl
      have R1 := R.keep (same_new (o := .dK []) hl)
      have hDl : D ≠ l := ne_of_none R.at_ hl
      have lnot : l ∉ ls := fun z => by
        obtain ⟨k, hk⟩ := List.mem_iff_getElem?.mp z
        obtain ⟨⟨kvs, e, _⟩, _⟩ := R.row k l hk
        exact ne_of_none e hl rfl
      refine ⟨ls.map V.ref, R1.at_, by rw [List.length_map]; exact small1000 (by omega), ls ++ [l], by rw [List.length_append, List.length_singleton, hls], fun b o e => ?_, ?_, hD, ?_, ?_, fun k l' hk => ?_⟩
      · rw [upd_ne (ne_of_none e hD)]
        exact R1.same _ _ e
      · rw [upd_same, List.map_append]; rfl
      · rw [List.mem_append, List.mem_singleton]
        exact fun z => z.elim R.nin hDl
      · rw [List.nodup_append]
        exact ⟨R.nd, by simp, fun a ha b hb z => lnot (by rw [← List.mem_singleton.mp hb, ← z]; exact ha)⟩
      · have hDl' : l' ≠ D := fun z => by
          have hm := List.mem_of_getElem? hk
          rw [z, List.mem_append, List.mem_singleton] at hm
          exact hm.elim R.nin hDl
        rw [upd_ne hDl']
        by_cases c : k < ls.length
        · rw [List.getElem?_append_left c] at hk
          exact R1.row k l' hk
        · have hm := List.mem_of_getElem? hk
          rw [List.getElem?_append_right (Nat.not_lt.mp c)] at hk
          have : l' = l := List.mem_singleton.mp (List.mem_of_getElem? hk)
          subst this
          exact ⟨⟨[], upd_same, rfl⟩, List.nodup_nil, R.same.free hl⟩
    · rintro H' ⟨ls, hls, R⟩
      refine ⟨_, rfl, a, rfl, ⟨_, R.same.seq hL⟩, for_list (K := K) (fun j σ H' => (∃ y3 y4, σ = [some (vi n), some (.ref a), some (.ref D), y3, y4, none, none]) ∧ ∃ rows, DRows H D ls rows H' ∧ ∀ i x, x ∈ rows i ↔ x ∈ nbs (ps.take j) i) ⟨⟨_, _, rfl⟩, _, R, fun i x => by rw [List.take_zero]; rfl⟩ (fun _ _ _ _ ⟨_, _, z, _⟩ => z.same.seq hL) ?_ ?_⟩
      · rintro j x σ H1 hj ⟨⟨y3, y4, rfl⟩, rows, R, hm⟩
        obtain ⟨⟨u, v⟩, he, t, rfl, ht⟩ := L2.paired_get hP hj
        have hok := ok _ (List.mem_of_getElem? he)
        have hu : u < ls.length := by rw [hls]; exact Nat.lt_trans hok.1 hok.2
        have hv : v < ls.length := by rw [hls]; exact hok.2
        have hlu := List.getElem?_eq_getElem hu
        have hlv := List.getElem?_eq_getElem hv
        have hju : (ls.map V.ref)[u]? = some (.ref ls[u]) := by rw [List.getElem?_map, hlu]; rfl
        have hjv : (ls.map V.ref)[v]? = some (.ref ls[v]) := by rw [List.getElem?_map, hlv]; rfl
        have hlen : ∀ i, (rows i).Nodup → (rows i).length ≤ n := fun i nd => bfs_len nd fun x hx => by
          rw [hm, mem_nbs] at hx
          rcases hx with hx | hx
          · exact (ok _ (List.mem_of_mem_take hx)).2
          · exact Nat.lt_trans (ok _ (List.mem_of_mem_take hx)).1 (ok _ (List.mem_of_mem_take hx)).2
        refine ⟨t, [vi u, vi v], rfl, same_sqT R.same ht, rfl, vi u, [vi v], rfl, vi v, [], rfl, rfl, ?_⟩
        obtain ⟨⟨kvs, hk, kd⟩, ndu, _⟩ := R.row _ _ hlu
        have l1 := hlen u ndu
        refine ⟨_, rfl, _, rfl, D, _, u, _, rfl, rfl, .inl (.inl R.at_), atI_nat hju, _, rfl, _, _, rfl, DPut.k (k := kI v) hk (by rw [kd.len]; exact small1000 (by omega)), ?_⟩
        have R1 := R.add hlu v (V.bl true) hk
        obtain ⟨⟨kvs2, hk2, kd2⟩, ndv, _⟩ := R1.row _ _ hlv
        have hvu : ¬ v = u := Nat.ne_of_gt hok.1
        simp only [if_neg hvu] at kd2 ndv
        have l2 := hlen v ndv
        refine ⟨_, rfl, _, rfl, D, _, v, _, rfl, rfl, .inl (.inl R1.at_), atI_nat hjv, _, rfl, _, _, rfl, DPut.k (k := kI u) hk2 (by rw [kd2.len]; exact small1000 (by omega)), ?_⟩
        refine ⟨⟨_, _, rfl⟩, _, R1.add hlv u (V.bl true) hk2, fun i x => ?_⟩
        rw [List.take_add_one, he]
        show _ ↔ x ∈ nbs (ps.take j ++ [(u, v)]) i
        have e1 : x ∈ nbs (ps.take j ++ [(u, v)]) i ↔ x ∈ nbs (ps.take j) i ∨ (i = u ∧ x = v) ∨ (i = v ∧ x = u) := by
          rw [mem_nbs, mem_nbs, List.mem_append, List.mem_append, List.mem_singleton, List.mem_singleton, Prod.mk.injEq, Prod.mk.injEq]
          constructor
          · rintro ((h | h) | (h | h))
            · exact .inl (.inl h)
            · exact .inr (.inl h)
            · exact .inl (.inr h)
            · exact .inr (.inr ⟨h.2, h.1⟩)
          · rintro ((h | h) | (h | h))
            · exact .inl (.inl h)
            · exact .inr (.inl h)
            · exact .inl (.inr h)
            · exact .inr (.inr ⟨h.2, h.1⟩)
        rw [e1]
        by_cases c : i = v
        · subst c
          simp only [if_true, if_neg hvu]
          rw [mem_addN, hm]
          constructor
          · rintro (h | h)
            · exact .inr (.inr ⟨by simp, h⟩)
            · exact .inl h
          · rintro (h | ⟨h, _⟩ | ⟨_, h⟩)
            · exact .inr h
            · exact absurd h hvu
            · exact .inl h
        · by_cases d : i = u
          · subst d
            simp only [if_neg c, if_true]
            rw [mem_addN, hm]
            constructor
            · rintro (h | h)
              · exact .inr (.inl ⟨by simp, h⟩)
              · exact .inl h
            · rintro (h | ⟨_, h⟩ | ⟨h, _⟩)
              · exact .inr h
              · exact .inl h
              · exact absurd h c
          · simp only [if_neg c, if_neg d]
            rw [hm]
            constructor
            · exact .inl
            · rintro (h | ⟨h, _⟩ | ⟨h, _⟩)
              · exact h
              · exact absurd h d
              · exact absurd h c
      · rintro σ H1 ⟨⟨y3, y4, rfl⟩, rows, R, hm⟩
        rw [hps, List.take_length] at hm
        refine ⟨_, rfl, D, rfl, ⟨_, .inl (.inl R.at_)⟩, fun D2 hD2 => lcm_list (K := K) (xs := ls.map V.ref) (fun i H y => TR K H y (rowOf n ps i)) (fun _ => true) (fun _ _ _ _ t z => z.ts t) hD2 (.inl (.inl R.at_)) (by rw [List.length_map]; exact Nat.le_of_lt (small1000 (by omega))) ?_ ?_⟩
        · intro i x hx
          rw [List.getElem?_map] at hx
          cases hli : ls[i]? with
          | none => rw [hli] at hx; cases hx
          | some l =>
            rw [hli] at hx
            cases hx
            refine lct_yes fun H2 s2 Qt q2 => ?_
            obtain ⟨⟨kvs, hk, kd⟩, ndi, _⟩ := R.row _ _ hli
            have hll : (rows i).length ≤ n := bfs_len ndi fun x hx => by
              rw [hm, nbs_rowOf ok] at hx
              exact (mem_rowOf.mp hx).1
            refine ⟨_, rfl, l, kvs, rfl, s2 _ _ hk, fun z hz => ?_⟩
            rw [kd.vals]
            refine ⟨z, nts (rows i), rfl, .inl (.inl (by rw [nts_v, upd_same])), by unfold nts; rw [List.length_map]; omega, fun ns y pm rs hy => ?_⟩
            have ens : ns = nts (rowOf n ps i) := eq_of_leI rs (nts_le (rowOf_sorted n ps i)) (pm.trans (nts_perm ((List.perm_ext_iff_of_nodup ndi (nodup_of_lt (rowOf_sorted n ps i))).mpr fun x => by rw [hm, nbs_rowOf ok])))
            subst ens
            have s3 := (same_new (o := .lst ((rows i).map vi)) hz).trans (same_new (o := .lst ((nts (rowOf n ps i)).map V.int)) hy)
            exact ⟨y, _, rfl, .inl ⟨.inl (.inl upd_same), fun t ht => q2 _ _ (s3.trans (same_new ht)) ⟨t, rfl, .inl (.inl (by rw [upd_same, nts_v]))⟩⟩⟩
        · intro H2 ys s2 hys pys
          rw [filter_all, List.length_map, hls] at pys
          refine ⟨D2, ys, rfl, .inl ⟨.inl (.inl hys), fun t ht => q _ _ (R.same.trans (s2.trans (same_new ht))) ⟨t, ys, rfl, .inl (.inl upd_same), ?_⟩⟩⟩
          exact Paired.mapP (paired_mapr (f := rowOf n ps) (R := TR K H2) pys) fun _ _ z => z.ts (.new ht)
end
end Tr

/-! _law_couples, _law_sets. -/
namespace Tr
open PySem PySem.Spec PyProof.Rows L2
theorem paired_append {α β : Type} {R : α → β → Prop} {xs xs' : List α} {ys ys' : List β} (h : Paired R xs ys) (k : Paired R xs' ys') : Paired R (xs ++ xs') (ys ++ ys') := by
  induction h with
  | nil => exact k
  | cons r _ ih => exact .cons r ih
theorem paired_filter {β γ : Type} {R : V → γ → Prop} {row : List β} (d : β) {p : β → Bool} {f : β → γ} {ys : List V} (h : Paired (fun y j => ∃ m, row[j]? = some m ∧ R y (f m)) ys ((List.range row.length).filter fun j => p (row.getD j d))) : Paired R ys ((row.filter p).map f) := by
  have h2 := paired_mapr (f := fun j => f (row.getD j d)) (R := R) (paired_mem h fun y j _ ⟨m, hm, r⟩ => by
    rw [List.getD_eq_getElem?_getD, hm]; exact r)
  have e : (row.filter p).map f = ((List.range row.length).filter fun j => p (row.getD j d)).map fun j => f (row.getD j d) := by
    conv => lhs; rw [← range_getD d row]
    rw [List.filter_map, List.map_map]
    rfl
  rw [e]
  exact h2
section
variable {P : Program} {w : World} {K : PySem.W.Frag} {mg : Str → Option Value} {base : Heap}
abbrev sCouples : Stmt := topS 30
abbrev nCp : List Str := ["_law_web_here", "_law_found", "_law_one", "_law_other"]
theorem sc30 : FnScope nCp ["_law_web_here"] (defScope sCouples) := ⟨rfl, rfl, rfl, by decide +kernel, rfl, by decide +kernel, by decide +kernel⟩
theorem ok_couples {f : Addr} {fd : FuncData} (F : Fun K "_law_couples" "_law_couples" sCouples f fd) (S : Std mg) : FnOk P w K mg base CX0 1 f fd ["_law_web_here"] (spPairsIn K) := by
  have nd := sc30.nd
  refine F.ok sc30 (fun vs H Q E h => ?_) (fun cdv A outer s H vs Q E hr h => ?_)
  · obtain ⟨v, n, ps, rfl, _⟩ := h
    rfl
  · obtain ⟨v, n, ps, rfl, ⟨a, vs, rfl, hW, hP⟩, h8, q⟩ := h
    refine ⟨_, pss_cons (ps_set (i := 1) nd rfl (.inl rfl) (pe_lst pa_nil))
      (pss_cons (ps_for PassesOwn.never rfl (pi_range1 (by rfl) S.rng (pa_cons (pe_lenOf K S.len (pa_cons (pv 0) pa_nil)) pa_nil)) (pg_name (i := 2) nd rfl (.inr rfl))
        (pss_one (ps_set (i := 1) nd rfl (.inl rfl) (pe_op op_cat (pv 1) (pe_lc (own := [("_law_other", 3)]) (g := gName 3) rfl nd (pi_tup (pe_ixT K (pv 0) (pv 2))) (blkOk_by (own := [("_law_other", 3)]) (N := nCp) (sc := defScope sCouples) (by decide +kernel))
          (fun _ _ _ _ _ => pg_name (i := 3) nd rfl (.inl rfl)) (fun _ _ _ _ _ => pts_one (pt_cmpR op_lt (pv 2) (pv 3) (nomark _))) (fun _ _ _ _ _ => pe_tup (pa_cons (pv 2) (pa_cons (pv 3) pa_nil))))))))
      (pss_one (ps_ret (pv 1)))), ?_⟩
    have hlen : vs.length = n := (Paired.length hP).trans (webOf_length n ps)
    refine ⟨Nat.zero_le _, fun p np => ?_⟩
    refine ⟨_, rfl, a, vs, rfl, .inr (same_sqT (same_new np) hW), ?_⟩
    rw [hlen]
    refine ⟨_, rfl, by show -(2 ^ 62 : Int) ≤ n; omega, by show (n : Int) < 2 ^ 62; omega, for_range (n := n) (fun i σ H' => ∃ p xs y2, σ = [some (.ref a), some (.ref p), y2, none] ∧ Same H H' ∧ H p = none ∧ H' p = some (.lst xs) ∧ xs.length ≤ 8 * i ∧ Paired (TP K H') xs ((List.range i).flatMap (pairsAt (webOf n ps))))
      ⟨p, [], _, rfl, same_new np, np, upd_same, Nat.zero_le _, .nil⟩ ?_ ?_⟩
    · rintro i σ H' hi ⟨p, xs, y2, rfl, sm, np, hp, hx, pp⟩
      obtain ⟨y, hy, l, rfl, hl⟩ := paired_at hP (webOf_get ps hi)
      have e0 : (0 : Int) + (i : Int) = (i : Int) := by omega
      rw [e0]
      have hl1 := same_sqT sm hl
      have hr8 : (rowOf n ps i).length ≤ 8 := Nat.le_trans (rowOf_length_le n ps i) h8
      refine ⟨_, rfl, _, rfl, _, rfl, a, _, _, _, rfl, rfl, same_sqT sm hW, atI_nat hy, l, rfl, ⟨_, hl1⟩, fun D hD => lcm_tup (K := K) (fun j H y => ∃ m, (rowOf n ps i)[j]? = some m ∧ TP K H y (i, m)) (fun j => decide (i < (rowOf n ps i).getD j 0)) (fun _ _ _ _ t ⟨m, h1, h2⟩ => ⟨m, h1, h2.ts t⟩) hD hl1 (by rw [List.length_map]; exact Nat.le_of_lt (small1000 (by omega))) (fun j y hy H2 s2 Qf Qt qf qt => ?_) fun H2 ys s2 hys pys => ?_⟩
      · obtain ⟨m, hm, rfl⟩ := map_at hy
        have kf : (fun j => decide (i < (rowOf n ps i).getD j 0)) j = decide (i < m) := by
          show decide (i < (rowOf n ps i).getD j 0) = _
          rw [List.getD_eq_getElem?_getD, hm]; rfl
        refine ⟨_, rfl, _, rfl, _, _, rfl, rfl, _, rfl, ite2 (fun c => ?_) (fun c => ?_)⟩
        · have c' : i < m := by have := of_decide_eq_true c; omega
          exact ⟨_, rfl, _, rfl, by show 2 ≤ sizeLine; decide, fun t ht => qt (kf.trans (decide_eq_true c')) _ _ (same_new ht) ⟨m, hm, t, rfl, .inl (.inl upd_same)⟩⟩
        · have c' : ¬ i < m := fun z => c (decide_eq_true (by omega))
          exact qf (kf.trans (decide_eq_false c')) _ (.refl _)
      · rw [List.length_map] at pys
        have pys2 := paired_filter (f := fun m => (i, m)) (p := fun m => decide (i < m)) (R := TP K H2) 0 pys
        have hyl : ys.length ≤ 8 := by
          rw [Paired.length pys]
          exact Nat.le_trans (List.length_filter_le _ _) (by rw [List.length_range]; exact hr8)
        refine ⟨p, D, xs, ys, rfl, rfl, s2 _ _ hp, hys, Nat.le_of_lt (small1000 (by omega)), fun z hz => ?_⟩
        have sz := same_new (o := .lst (xs ++ ys)) hz
        refine ⟨z, _, _, rfl, sm.trans (s2.trans sz), sm.free (s2.free hz), upd_same, by rw [List.length_append]; omega, ?_⟩
        rw [List.range_succ, List.flatMap_append, List.flatMap_singleton]
        have e : pairsAt (webOf n ps) i = ((rowOf n ps i).filter fun m => decide (i < m)).map fun m => (i, m) := by
          unfold pairsAt
          rw [webOf_getD ps hi]
        rw [e]
        have t1 : Tst H' (upd H2 z (.lst (xs ++ ys))) := .of (s2.trans sz)
        have t2 : Tst H2 (upd H2 z (.lst (xs ++ ys))) := .of sz
        exact paired_append (Paired.mapP pp fun _ _ z => z.ts t1) (Paired.mapP pys2 fun _ _ z => z.ts t2)
    · rintro σ H' ⟨p, xs, y2, rfl, sm, np, hp, hx, pp⟩
      refine ⟨_, rfl, q _ _ xs sm np hp ?_⟩
      unfold pairsOf
      rw [webOf_length]
      exact pp
abbrev sSets : Stmt := topS 31
abbrev nSt : List Str := ["_law_many", "_law_found", "_law_person", "_law_piece"]
theorem sc31 : FnScope nSt ["_law_many"] (defScope sSets) := ⟨rfl, rfl, rfl, by decide +kernel, rfl, by decide +kernel, by decide +kernel⟩
def spSets (K : PySem.W.Frag) : Sp := fun vs H Q _ => ∃ m : Nat, vs = [vi m] ∧ m ≤ 10 ∧ ∀ H' p xs, Same H H' → H p = none → H' p = some (.lst xs) → Paired (TR K H') xs (subsL (List.range m)) → Q (.ref p) H'
theorem ok_sets {f : Addr} {fd : FuncData} (F : Fun K "_law_sets" "_law_sets" sSets f fd) (S : Std mg) : FnOk P w K mg base CX0 1 f fd ["_law_many"] (spSets K) := by
  have nd := sc31.nd
  refine F.ok sc31 (fun vs H Q E h => ?_) (fun cdv A outer s H vs Q E hr h => ?_)
  · obtain ⟨m, rfl, _⟩ := h
    rfl
  · obtain ⟨m, rfl, h10, q⟩ := h
    refine ⟨_, pss_cons (ps_set (i := 1) nd rfl (.inl rfl) (pe_lst (pa_cons (pe_tup pa_nil) pa_nil)))
      (pss_cons (ps_for PassesOwn.never rfl (pi_range1 (by rfl) S.rng (pa_cons (pv 0) pa_nil)) (pg_name (i := 2) nd rfl (.inr rfl))
        (pss_one (ps_set (i := 1) nd rfl (.inl rfl) (pe_op op_cat (pv 1) (pe_lc (own := [("_law_piece", 3)]) (g := gName 3) (tt := tYes) rfl nd (pi_list (pv 1)) (blkOk_by (own := [("_law_piece", 3)]) (N := nSt) (sc := defScope sSets) (by decide +kernel))
          (fun _ _ _ _ _ => pg_name (i := 3) nd rfl (.inl rfl)) (fun _ _ _ _ _ => pts_nil) (fun _ _ _ _ _ => pe_op (r := rCatA K) op_catA (pv 3) (pe_tup (pa_cons (pv 2) pa_nil))))))))
      (pss_one (ps_ret (pv 1)))), ?_⟩
    refine ⟨Nat.zero_le _, fun e ne => ⟨by show 1 ≤ sizeLine; decide, fun p np => ?_⟩⟩
    have hep : e ≠ p := ne_of_none (o := .tup []) upd_same np
    have s0 := (same_new (o := .tup []) ne).trans (same_new (o := .lst [.ref e]) np)
    refine ⟨_, rfl, _, rfl, by show -(2 ^ 62 : Int) ≤ m; omega, by show (m : Int) < 2 ^ 62; omega, for_range (n := m) (fun i σ H' => ∃ p xs y2, σ = [some (vi m), some (.ref p), y2, none] ∧ Same H H' ∧ H p = none ∧ H' p = some (.lst xs) ∧ Paired (TR K H') xs (subsL (List.range i)))
      ⟨p, [.ref e], _, rfl, s0, (same_new (o := .tup []) ne).free np, upd_same, .cons ⟨e, rfl, .inl (.inl (by rw [upd_ne hep, upd_same]; rfl))⟩ .nil⟩ ?_ ?_⟩
    · rintro i σ H' hi ⟨p, xs, y2, rfl, sm, np, hp, pp⟩
      have e0 : (0 : Int) + (i : Int) = (i : Int) := by omega
      rw [e0]
      have hxl : xs.length ≤ 1024 := by
        rw [Paired.length pp, subsL_length, List.length_range]
        exact Nat.le_trans (Nat.pow_le_pow_right (by decide) (show i ≤ 10 by omega)) (by decide)
      refine ⟨_, rfl, _, rfl, p, rfl, ⟨_, .inl (.inl hp)⟩, fun D hD => lcm_list (K := K) (fun j H y => ∃ r, (subsL (List.range i))[j]? = some r ∧ TR K H y (r ++ [i])) (fun _ => true) (fun _ _ _ _ t ⟨m, h1, h2⟩ => ⟨m, h1, h2.ts t⟩) hD (.inl (.inl hp)) (Nat.le_of_lt (lt1024 hxl)) ?_ fun H2 ys s2 hys pys => ?_⟩
      · intro j y hy
        obtain ⟨r, hr, hry⟩ := L2.paired_get pp hy
        have hrl : r.length ≤ i := by
          have := (mem_subsL.mp (List.mem_of_getElem? hr)).length_le
          rwa [List.length_range] at this
        refine lct_yes fun H2 s2 Qt q2 => ?_
        obtain ⟨b, rfl, hb⟩ := hry.ts (.of s2)
        refine ⟨_, rfl, _, rfl, by show 1 ≤ sizeLine; decide, fun t ht => ?_⟩
        have st := same_new (o := .tup [vi i]) ht
        refine ⟨b, t, _, _, rfl, rfl, same_sqT st hb, .inl (.inl upd_same), ?_, fun e => ?_, fun _ z => absurd z (by simp), fun _ _ c hc => ?_⟩
        · rw [List.length_map, List.length_singleton]
          exact Nat.le_of_lt (small1000 (by omega))
        · have : r = [] := List.map_eq_nil_iff.mp e
          subst this
          exact q2 _ _ st ⟨[], hr, t, rfl, .inl (.inl upd_same)⟩
        · exact q2 _ _ (st.trans (same_new hc)) ⟨r, hr, c, rfl, .inl (.inl (by rw [upd_same, List.map_append]; rfl))⟩
      · rw [filter_all, Paired.length pp] at pys
        have pys2 : Paired (TR K H2) ys ((subsL (List.range i)).map (· ++ [i])) := paired_mapr (f := (· ++ [i])) (paired_getm (R := fun y r => TR K H2 y (r ++ [i])) [] pys)
        have hyl : ys.length ≤ 1024 := by
          rw [Paired.length pys2, List.length_map, ← Paired.length pp]; exact hxl
        refine ⟨p, D, xs, ys, rfl, rfl, s2 _ _ hp, hys, Nat.le_of_lt (Nat.lt_of_le_of_lt (show xs.length + ys.length ≤ 2048 by omega) (by decide)), fun z hz => ?_⟩
        have sz := same_new (o := .lst (xs ++ ys)) hz
        refine ⟨z, _, _, rfl, sm.trans (s2.trans sz), sm.free (s2.free hz), upd_same, ?_⟩
        rw [List.range_succ, subsL_snoc]
        have t1 : Tst H' (upd H2 z (.lst (xs ++ ys))) := .of (s2.trans sz)
        have t2 : Tst H2 (upd H2 z (.lst (xs ++ ys))) := .of sz
        exact paired_append (Paired.mapP pp fun _ _ z => z.ts t1) (Paired.mapP pys2 fun _ _ z => z.ts t2)
    · rintro σ H' ⟨p, xs, y2, rfl, sm, np, hp, pp⟩
      exact ⟨_, rfl, q _ _ xs sm np hp pp⟩
end
end Tr

/-! _law_steps, _law_lots. -/
namespace Tr
open PySem PySem.Spec PyProof.Rows L2
theorem Bfs.congr {n p : Nat} {ps : List Edge} {F L L' : List Nat} (h : Bfs n ps p F L) (e : ∀ x, x ∈ L ↔ x ∈ L') : Bfs n ps p F L' :=
  { h with sub := fun u hu => h.sub u ((e u).mpr hu), fin := fun u hu k => h.fin u hu fun z => k ((e u).mp z) }
theorem BfsIn.congr {n p u j : Nat} {ps : List Edge} {F L L' : List Nat} (h : BfsIn n ps p u j F L) (e : ∀ x, x ∈ L ↔ x ∈ L') : BfsIn n ps p u j F L' :=
  { h with sub := fun u hu => h.sub u ((e u).mpr hu), fin := fun u hu k => h.fin u hu fun z => k ((e u).mp z) }
section
variable {P : Program} {w : World} {K : PySem.W.Frag} {mg : Str → Option Value} {base : Heap}
abbrev sSteps : Stmt := topS 32
abbrev nSp : List Str := ["_law_web_here", "_law_person", "_law_far", "_law_last", "_law_count", "_law_fresh", "_law_here", "_law_other"]
theorem sc32 : FnScope nSp ["_law_web_here", "_law_person"] (defScope sSteps) := ⟨rfl, rfl, rfl, by decide +kernel, rfl, by decide +kernel, by decide +kernel⟩
def spSteps (K : PySem.W.Frag) : Sp := fun vs H Q _ => ∃ (v : V) (n : Nat) (ps : List Edge) (p : Nat), vs = [v, vi p] ∧ TW K H v (webOf n ps) ∧ OkE n ps ∧ p < n ∧ n ≤ 8 ∧
  ∀ H' d kvs F, Same H H' → H' d = some (.dK kvs) → KD kvs F → F.Nodup → (∀ u, u ∈ F ↔ u ∈ groupOf n ps p) → Q (.ref d) H'
theorem ok_steps {f : Addr} {fd : FuncData} (F : Fun K "_law_steps" "_law_steps" sSteps f fd) (S : Std mg) : FnOk P w K mg base CX0 1 f fd ["_law_web_here", "_law_person"] (spSteps K) := by
  have nd := sc32.nd
  refine F.ok sc32 (fun vs H Q E h => ?_) (fun cdv A outer s H vs Q E hr h => ?_)
  · obtain ⟨v, n, ps, p, rfl, _⟩ := h
    rfl
  · obtain ⟨v, n, ps, p, rfl, ⟨a, vs, rfl, hW, hP⟩, ok, hpn, h8, q⟩ := h
    have hu := hu_of hr
    refine ⟨_, pss_cons (ps_par3 (i := 2) (j := 3) (l := 4) (by rfl) nd rfl rfl rfl (by decide) (by decide) (by decide) rfl rfl rfl (pa_cons (pe_disp (pps_cons (pv 1) pe_int pps_nil) (by rfl) (by rfl) (fun z => by cases z) (by decide)) (pa_cons (pe_lst (pa_cons (pv 1) pa_nil)) (pa_cons pe_int pa_nil))) (by rfl))
      (pss_cons (ps_while PassesOwn.never (PW.pt (pw_and (pt_cmpR (op_neD hr.units) (pv 3) (pe_lst pa_nil) (nomark _)) (pw_and1 (pt_cmpR op_lt (pv 4) pe_int (nomark _)))))
        (pss_cons (ps_par (i := 4) (j := 5) (by rfl) nd rfl rfl (by decide) rfl rfl (pa_cons (pe_op op_add (pv 4) pe_int) (pa_cons (pe_lst pa_nil) pa_nil)) (by rfl))
        (pss_cons (ps_for PassesOwn.never rfl (pi_list (pv 3)) (pg_name (i := 6) nd rfl (.inl rfl))
          (pss_one (ps_for PassesOwn.never rfl (pi_tup (pe_ixT K (pv 0) (pv 6))) (pg_name (i := 7) nd rfl (.inl rfl))
            (pss_one (ps_if (pt_cmp (pc_dnotin hu (pv 7) (pv 2)))
              (pss_cons (ps_dput hu (pv 2) (pv 7) (pv 4) rfl)
              (pss_one (ps_expr (pe_bm PySem.F.plainAttrs_list PySem.F.slot_list_append PySem.F.type_list_append mt_append (pv 5) (pa_cons (pv 7) pa_nil))))) pss_nil)))))
        (pss_one (ps_set (i := 3) nd rfl (.inl rfl) (pv 5))))))
      (pss_one (ps_ret (pv 2)))), ?_⟩
    intro d hd
    refine ⟨_, rfl, upd_same, [(kI p, .int 0)], rfl, by show 1 ≤ 15; decide, ?_⟩
    have hdH : ∀ o o', Same H (upd (upd H d o) d o') := fun o o' b x e => by
      rw [upd_ne (ne_of_none e hd), upd_ne (ne_of_none e hd)]; exact e
    refine ⟨_, rfl, by show 1 ≤ sizeLine; decide, fun la hla => ?_⟩
    have s0 := (hdH (.dK []) (.dK (mergeK [] [(kI p, V.int 0)]))).trans (same_new (o := .lst [vi p]) hla)
    have hdla : d ≠ la := ne_of_none (o := .dK (mergeK [] [(kI p, V.int 0)])) upd_same hla
    refine ⟨_, _, _, rfl, ?_⟩
    refine ⟨fun m σ H' => ∃ la F L kvs cnt y5 y6 y7, σ = [some (.ref a), some (vi p), some (.ref d), some (.ref la), some (vi cnt), y5, y6, y7] ∧ Same H H' ∧ H la = none ∧ H' d = some (.dK kvs) ∧ KD kvs F ∧ H' la = some (.lst (L.map vi)) ∧ Bfs n ps p F L ∧ cnt + L.length ≤ F.length ∧ m = 9 - cnt,
      ⟨_, la, [p], [p], mergeK [] [(kI p, V.int 0)], 0, none, none, none, rfl, s0, (hdH _ _).free hla, by rw [upd_ne hdla, upd_same], by unfold KD; rfl, upd_same, .start hpn, Nat.le_refl _, rfl⟩, ?_⟩
    rintro m σ H' ⟨la, F, L, kvs, cnt, y5, y6, y7, rfl, sm, hla0, hdk, kd, hL, B, hcnt, rfl⟩
    have FB := bfs_len B.nd fun u hu => (B.cls u hu).1
    refine ⟨_, rfl, Nat.zero_le _, fun e he => ?_⟩
    have sme : Same H' (upd H' e (.lst [])) := same_new he
    have shp : ∀ l : List Nat, SeqAt.shaped (.list (l.map dN)) = true := shaped_list (k := 0) lay_dN (fun n => by rw [depth_dN]; exact Nat.le_refl _) (by decide)
    refine ⟨.list (L.map dN), .list ([].map dN), .lst (.inl (.inl (sme _ _ hL))) (dpAll_ints _), .lst (.inl (.inl upd_same)) .nil, shp _, shp _, _, rfl, ?_⟩
    rw [eqv_dNs]
    by_cases hLe : L = []
    · rw [decide_eq_true hLe]
      refine iteF ?_
      refine iteF ?_
      subst hLe
      exact ⟨_, rfl, q _ d kvs F (sm.trans sme) (sme _ _ hdk) kd B.nd (B.mem ok)⟩
    · rw [decide_eq_false hLe]
      have hLpos : 1 ≤ L.length := List.length_pos_iff.mpr hLe
      refine iteT ⟨_, rfl, _, _, rfl, rfl, _, rfl, ?_⟩
      rw [decide_eq_true (show (cnt : Int) < 9 by omega)]
      refine iteT ?_
      have smT := sm.trans sme
      refine ⟨fun σ' H'' => ∃ la F L kvs cnt' y5 y6 y7, σ' = [some (.ref a), some (vi p), some (.ref d), some (.ref la), some (vi cnt'), y5, y6, y7] ∧ Same H H'' ∧ H la = none ∧ H'' d = some (.dK kvs) ∧ KD kvs F ∧ H'' la = some (.lst (L.map vi)) ∧ Bfs n ps p F L ∧ cnt' + L.length ≤ F.length ∧ cnt' = cnt + 1,
        fun σ' H'' ⟨la, F, L, kvs, cnt', y5, y6, y7, e1, e2, e3, e4, e5, e6, e7, e8, e9⟩ => ⟨9 - cnt', by omega, la, F, L, kvs, cnt', y5, y6, y7, e1, e2, e3, e4, e5, e6, e7, e8, rfl⟩, ?_⟩
      refine ⟨_, rfl, _, _, rfl, rfl, Nat.zero_le _, fun fr hfr => ⟨_, _, rfl, ?_⟩⟩
      have ec : (cnt : Int) + 1 = ((cnt + 1 : Nat) : Int) := by omega
      have sf : Same (upd H' e (.lst [])) (upd (upd H' e (.lst [])) fr (.lst [])) := same_new hfr
      have hL1 := sme _ _ hL
      have hd1 := sme _ _ hdk
      have hlafr : la ≠ fr := ne_of_none hL1 hfr
      have hdfr : d ≠ fr := ne_of_none hd1 hfr
      have hdla' : d ≠ la := ne_of hdk hL (by intro z; cases z)
      have hd0 : H d = none := hd
      have hfr0 := smT.free hfr
      refine ⟨_, rfl, la, rfl, ⟨_, .inl (.inl (sf _ _ hL1))⟩, for_list (K := K) (xs := L.map vi) (fun i σ H2 => ∃ F2 fs kvs2 y6 y7, σ = [some (.ref a), some (vi p), some (.ref d), some (.ref la), some (.int ((cnt : Int) + 1)), some (.ref fr), y6, y7] ∧ Same H H2 ∧ H2 d = some (.dK kvs2) ∧ KD kvs2 F2 ∧ H2 la = some (.lst (L.map vi)) ∧ H2 fr = some (.lst (fs.map vi)) ∧ Bfs n ps p F2 (fs ++ L.drop i) ∧ F2.length = F.length + fs.length)
        ⟨F, [], kvs, _, _, rfl, smT.trans sf, sf _ _ hd1, kd, sf _ _ hL1, upd_same, B, rfl⟩ (fun i σ H2 _ ⟨_, _, _, _, _, _, _, _, _, z, _⟩ => .inl (.inl z)) ?_ ?_⟩
      · rintro i x σ H2 hi ⟨F2, fs, kvs2, y6, y7, rfl, sm2, hd2, kd2, hL2, hf2, B2, hlen2⟩
        obtain ⟨u, hui, rfl⟩ := map_at hi
        have hil := (List.getElem?_eq_some_iff.mp hui).1
        have edrop : L.drop i = u :: L.drop (i + 1) := by
          rw [List.drop_eq_getElem_cons hil]
          rw [List.getElem?_eq_getElem hil] at hui
          rw [Option.some.inj hui]
        have B3 : Bfs n ps p F2 ((fs ++ L.drop (i + 1)) ++ [u]) := B2.congr fun x => by
          rw [edrop]
          simp only [List.mem_append, List.mem_cons, List.mem_singleton, List.not_mem_nil, or_false]
          constructor
          · rintro (h | h | h)
            · exact .inl (.inl h)
            · exact .inr h
            · exact .inl (.inr h)
          · rintro ((h | h) | h)
            · exact .inl h
            · exact .inr (.inr h)
            · exact .inr (.inl h)
        have Bu := B3.cls u (B3.sub u (by simp))
        obtain ⟨y, hy, l, rfl, hl⟩ := paired_at hP (webOf_get ps Bu.1)
        refine ⟨_, rfl, _, rfl, a, _, _, _, rfl, rfl, same_sqT sm2 hW, atI_nat hy, l, rfl, ⟨_, same_sqT sm2 hl⟩, for_tup (K := K) (fun j σ H3 => ∃ F3 fs kvs3 y7, σ = [some (.ref a), some (vi p), some (.ref d), some (.ref la), some (.int ((cnt : Int) + 1)), some (.ref fr), some (vi u), y7] ∧ Same H H3 ∧ H3 d = some (.dK kvs3) ∧ KD kvs3 F3 ∧ H3 la = some (.lst (L.map vi)) ∧ H3 fr = some (.lst (fs.map vi)) ∧ BfsIn n ps p u j F3 (fs ++ L.drop (i + 1)) ∧ F3.length = F.length + fs.length)
          ⟨F2, fs, kvs2, _, rfl, sm2, hd2, kd2, hL2, hf2, B3.pop, hlen2⟩ (fun j σ H3 _ ⟨_, _, _, _, _, z, _⟩ => same_sqT z hl) ?_ ?_⟩
        · rintro j x σ H3 hj ⟨F3, fs, kvs3, y7, rfl, sm3, hd3, kd3, hL3, hf3, B4, hlen3⟩
          obtain ⟨x, hx, rfl⟩ := map_at hj
          have FB3 := bfs_len B4.nd fun u hu => (B4.cls u hu).1
          refine ⟨_, rfl, _, rfl, d, _, rfl, DGet.k (k := kI x) hd3, _, rfl, ?_⟩
          rw [kd3.has]
          by_cases c : x ∈ F3
          · rw [decide_eq_true c]
            exact iteF ⟨F3, fs, kvs3, _, rfl, sm3, hd3, kd3, hL3, hf3, B4.old hx c, hlen3⟩
          · rw [decide_eq_false c]
            have B5 := B4.new ok hx c
            refine iteT ⟨_, rfl, _, rfl, _, rfl, _, _, rfl, DPut.k (k := kI x) hd3 (by rw [kd3.len]; exact small1000 (by omega)), ?_⟩
            have hf4 : (upd H3 d (.dK (putK kvs3 (kI x) (.int ((cnt : Int) + 1))))) fr = some (.lst (fs.map vi)) := by rw [upd_ne hdfr.symm]; exact hf3
            refine ⟨_, rfl, .inl ⟨rfl, _, .inl (.inl hf4)⟩, _, rfl, fr, _, _, rfl, rfl, hf4, by rw [List.length_map]; exact small1000 (by omega), ?_⟩
            refine ⟨F3 ++ [x], fs ++ [x], _, _, rfl, fun b o q => ?_, by rw [upd_ne hdfr, upd_same], ?_, ?_, by rw [upd_same, List.map_append]; rfl, B5.congr fun z => ?_, ?_⟩
            · rw [upd_ne (ne_of_none q hfr0), upd_ne (ne_of_none q hd0)]
              exact sm3 _ _ q
            · have := kd3.put x (.int ((cnt : Int) + 1))
              unfold addN at this
              rw [if_neg c] at this
              exact this
            · rw [upd_ne hlafr, upd_ne hdla'.symm]; exact hL3
            · simp only [List.mem_append, List.mem_singleton]
              constructor
              · rintro ((h | h) | h)
                · exact .inl (.inl h)
                · exact .inr h
                · exact .inl (.inr h)
              · rintro ((h | h) | h)
                · exact .inl (.inl h)
                · exact .inr h
                · exact .inl (.inr h)
            · rw [List.length_append, List.length_append, List.length_singleton]
              omega
        · rintro σ H3 ⟨F3, fs, kvs3, y7, rfl, sm3, hd3, kd3, hL3, hf3, B4, hlen3⟩
          exact ⟨F3, fs, kvs3, _, _, rfl, sm3, hd3, kd3, hL3, hf3, B4.full (by rw [List.length_map]), hlen3⟩
      · rintro σ H2 ⟨F2, fs, kvs2, y6, y7, rfl, sm2, hd2, kd2, hL2, hf2, B2, hlen2⟩
        rw [List.length_map, List.drop_length, List.append_nil] at B2
        exact ⟨_, rfl, fr, F2, fs, kvs2, cnt + 1, _, _, _, by rw [ec]; rfl, sm2, hfr0, hd2, kd2, hf2, B2, by omega, rfl⟩
abbrev sLots : Stmt := topS 33
abbrev nLo : List Str := ["_law_web_here", "_law_found", "_law_person"]
theorem sc33 : FnScope nLo ["_law_web_here"] (defScope sLots) := ⟨rfl, rfl, rfl, by decide +kernel, rfl, by decide +kernel, by decide +kernel⟩
def spLotsK (K : PySem.W.Frag) : Sp := fun vs H Q _ => ∃ (v : V) (n : Nat) (ps : List Edge), vs = [v] ∧ TW K H v (webOf n ps) ∧ OkE n ps ∧ 1 ≤ n ∧ n ≤ 8 ∧
  ∀ H' p xs gs, Same H H' → H p = none → H' p = some (.lst xs) → Paired (TZ H') xs gs → gs.Nodup → (∀ g, g ∈ gs ↔ ∃ q, q < n ∧ g = groupOf n ps q) → Q (.ref p) H'
theorem ok_lots {f : Addr} {fd : FuncData} (F : Fun K "_law_lots" "_law_lots" sLots f fd) (S : Std mg) (G : Has P w K mg base 1 "_law_steps" ["_law_web_here", "_law_person"] (spSteps K)) : FnOk P w K mg base CX0 2 f fd ["_law_web_here"] (spLotsK K) := by
  have nd := sc33.nd
  refine F.ok sc33 (fun vs H Q E h => ?_) (fun cdv A outer s H vs Q E hr h => ?_)
  · obtain ⟨v, n, ps, rfl, _⟩ := h
    rfl
  · obtain ⟨v, n, ps, rfl, hw, ok, h1, h8, q⟩ := h
    refine ⟨_, pss_cons (ps_set (i := 1) nd rfl (.inl rfl) pe_newX)
      (pss_cons (ps_for PassesOwn.never rfl (pi_range1 (by rfl) S.rng (pa_cons (pe_lenOf K S.len (pa_cons (pv 0) pa_nil)) pa_nil)) (pg_name (i := 2) nd rfl (.inl rfl))
        (pss_one (ps_asg pe_bl (pg_sub (pv 1) (pe_callTy call_tup_z (by rfl) S.tup (by decide +kernel) (pa_cons (pe_callB cr_sorted (by rfl) S.srt (by decide +kernel) (pa_cons (pe_callTy (call_list_dK rfl) (by rfl) S.lst (by decide +kernel) (pa_cons (pe_has G hr (pa_cons (pv 0) (pa_cons (pv 2) pa_nil))) pa_nil)) pa_nil)) pa_nil)) (set_X (kk := kkZ K) hr.units)))))
      (pss_one (ps_ret (pe_callB (cr_sortD (enc := dR) hr.units) (by rfl) S.srt (by decide +kernel) (pa_cons (pe_callTy (call_list_X (kk := kkZ K) rfl) (by rfl) S.lst (by decide +kernel) (pa_cons (pv 1) pa_nil)) pa_nil))))), ?_⟩
    obtain ⟨a, vs, rfl, hW, hP⟩ := id hw
    have hlen : vs.length = n := (Paired.length hP).trans (webOf_length n ps)
    intro fo hfo hsys
    have s0 : Same H (upd H fo (dX fo #[] 0)) := same_new hfo
    refine ⟨_, rfl, a, vs, rfl, .inr (same_sqT s0 hW), ?_⟩
    rw [hlen]
    refine ⟨_, rfl, by show -(2 ^ 62 : Int) ≤ n; omega, by show (n : Int) < 2 ^ 62; omega, for_range (n := n) (fun i σ H' => ∃ kvs y2, σ = [some (.ref a), some (.ref fo), y2] ∧ Same H H' ∧ DX P w (kkZ K) H' fo kvs ∧ (kvs.map (·.1)).Nodup ∧ kvs.length ≤ i ∧ ∀ g, g ∈ kvs.map (·.1) ↔ ∃ q, q < i ∧ g = groupOf n ps q)
      ⟨[], none, rfl, s0, .nil hsys, List.nodup_nil, Nat.le_refl _, fun g => ⟨fun h => absurd h (by simp), fun ⟨q, hq, _⟩ => absurd hq (Nat.not_lt_zero _)⟩⟩ ?_ ?_⟩
    · rintro i σ H1 hi ⟨kvs, y2, rfl, sm, D, ndk, hkl, hk⟩
      rw [show (0 : Int) + (i : Int) = (i : Int) by omega]
      refine ⟨_, rfl, _, rfl, _, rfl, _, n, ps, i, rfl, hw.ts (.of sm), ok, hi, h8, fun H2 d ks F s2 hd kd ndF hF => ?_⟩
      refine ⟨d, ks, rfl, hd, fun l hl => ?_⟩
      rw [kd.vals]
      have hFl : F.length ≤ n := bfs_len ndF fun u hu => (mem_groupOf.mp ((hF u).mp hu)).1
      refine ⟨l, nts F, rfl, .inl (.inl (by rw [nts_v, upd_same])), by unfold nts; rw [List.length_map]; omega, fun ns z pm rs hz => ?_⟩
      have ens : ns = nts (groupOf n ps i) := eq_of_leI rs (nts_le (groupOf_sorted n ps i)) (pm.trans (nts_perm ((List.perm_ext_iff_of_nodup ndF (nodup_of_lt (groupOf_sorted n ps i))).mpr hF)))
      subst ens
      rw [nts_v]
      refine ⟨z, (groupOf n ps i).map vi, rfl, .inl (.inl upd_same), fun t o ht ho => ?_⟩
      have s3 : Same H1 (upd (upd (upd H2 l (.lst (F.map vi))) z (.lst ((groupOf n ps i).map vi))) t (.frz o (.tup ((groupOf n ps i).map vi)))) := s2.trans ((same_new hl).trans ((same_new hz).trans (same_new ht)))
      refine ⟨fo, t, groupOf n ps i, kvs, rfl, rfl, D.same s3, ⟨t, o, rfl, upd_same, ho⟩, small1000 (by omega), fun es ep D' => ?_⟩
      refine ⟨_, _, rfl, fun b x e => ?_, D', nodup_put ndk, Nat.le_trans (length_put _ _ _) (by omega), fun g => ?_⟩
      · rw [upd_ne (ne_of_none e hfo)]
        exact s3 _ _ (sm _ _ e)
      · rw [mem_keys_put, hk]
        constructor
        · rintro (h | ⟨q, hq, h⟩)
          · exact ⟨i, by omega, h⟩
          · exact ⟨q, by omega, h⟩
        · rintro ⟨q, hq, h⟩
          by_cases c : q < i
          · exact .inr ⟨q, c, h⟩
          · have : q = i := by omega
            subst this
            exact .inl h
    · rintro σ H1 ⟨kvs, y2, rfl, sm, D, ndk, hkl, hk⟩
      refine ⟨_, rfl, fo, kvs, rfl, D, fun p ys hp pys => ?_⟩
      have sp : Same H1 (upd H1 p (.lst ys)) := same_new hp
      refine ⟨p, ys, kvs.map (·.1), TZ (upd H1 p (.lst ys)), rfl, .inl (.inl upd_same), Paired.mapP pys fun _ _ z => TZ.ts (.of sp) z, fun _ _ z => (z.tr (K := K)).dp, ?_, .inl ?_, fun t _ => Nat.le_trans (depth_dR t) (by decide), fun p2 zs hp2 pz => ?_⟩
      · intro x hx y hy
        obtain ⟨t, _, rfl⟩ := List.mem_map.mp hx
        obtain ⟨t', _, rfl⟩ := List.mem_map.mp hy
        exact alike_dR t t'
      · intro x hx
        obtain ⟨t, ht, rfl⟩ := List.mem_map.mp hx
        obtain ⟨q, hq, rfl⟩ := (hk t).mp ht
        cases e : groupOf n ps q with
        | nil => have := group_pos (ps := ps) hq; rw [e] at this; exact absurd this (Nat.lt_irrefl _)
        | cons b r => exact ⟨_, _, rfl⟩
      · have pm := List.mergeSort_perm (kvs.map (·.1)) (PySem.W.dataLe false dR)
        exact q _ p2 zs _ (sm.trans (sp.trans (same_new hp2))) (sm.free (sp.free hp2)) upd_same (Paired.mapP pz fun _ _ z => TZ.ts (.new hp2) z.2) (pm.symm.nodup ndk) fun g => (pm.mem_iff).trans (hk g)
end
end Tr

/-! _law_web. -/
namespace Tr
open PySem PySem.Spec PyProof.Rows L2
theorem Tst.bar {r : Addr} {H H' : Hp} {l : List V} (hr : H r = some (.lst l)) (b : Bar r H H') : Tst H H' :=
  ⟨fun a xs h => b a _ (ne_of h hr (by intro z; cases z)) h, fun a o u h => b a _ (ne_of h hr (by intro z; cases z)) h⟩
section
variable {P : Program} {w : World} {K : PySem.W.Frag} {mg : Str → Option Value} {base : Heap}
abbrev sLawWeb : Stmt := topS 29
abbrev nLw : List Str := ["_law_row", "_law_most", "_law_many", "_law_couples_here", "_law_rare", "_law_one", "_law_other"]
theorem sc29 : FnScope nLw ["_law_row", "_law_most"] (defScope sLawWeb) := ⟨rfl, rfl, rfl, by decide +kernel, rfl, by decide +kernel, by decide +kernel⟩
def spLawWeb (K : PySem.W.Frag) : Sp := fun vs H Q _ => ∃ r sc : Addr, vs = [.ref r, vi 5] ∧ LRow K H r sc ∧
  ∀ H' u n ps, Bar r H H' → LRow K H' r sc → TW K H' u (webOf n ps) → OkE n ps → 1 ≤ n → n ≤ 5 → Q u H'
theorem ok_law_web {f : Addr} {fd : FuncData} (F : Fun K "_law_web" "_law_web" sLawWeb f fd) (S : Std mg) (GT : Has P w K mg base 1 "_law_taken" ["_law_row", "_law_many"] (spTaken K)) (GB : Has P w K mg base 1 "_law_by" ["_law_many", "_law_couples_here"] (spLawBy K)) :
    FnOk P w K mg base CX0 2 f fd ["_law_row", "_law_most"] (spLawWeb K) := by
  have nd := sc29.nd
  refine F.ok sc29 (fun vs H Q E h => ?_) (fun cdv A outer s H vs Q E hr h => ?_)
  · obtain ⟨r, sc, rfl, _⟩ := h
    rfl
  · obtain ⟨r, sc, rfl, hR, q⟩ := h
    refine ⟨_, pss_cons (ps_par (i := 2) (j := 3) (by rfl) nd rfl rfl (by decide) rfl rfl (pa_cons (pe_op op_add pe_int (pe_has GT hr (pa_cons (pv 0) (pa_cons (pv 1) pa_nil)))) (pa_cons (pe_lst pa_nil) pa_nil)) (by rfl))
      (pss_cons (ps_set (i := 4) nd rfl (.inr rfl) (pe_op op_add pe_int (pe_has GT hr (pa_cons (pv 0) (pa_cons pe_int pa_nil)))))
      (pss_cons (ps_for PassesOwn.never rfl (pi_range1 (by rfl) S.rng (pa_cons (pv 2) pa_nil)) (pg_name (i := 5) nd rfl (.inr rfl))
        (pss_one (ps_set (i := 3) nd rfl (.inl rfl) (pe_op op_cat (pv 3) (pe_lc (own := [("_law_other", 6)]) (g := gName 6) rfl nd (pi_range2 (by rfl) S.rng (pa_cons (pe_op op_add (pv 5) pe_int) (pa_cons (pv 2) pa_nil))) (blkOk_by (own := [("_law_other", 6)]) (N := nLw) (sc := defScope sLawWeb) (by decide +kernel))
          (fun _ _ _ _ _ => pg_name (i := 6) nd rfl (.inl rfl)) (fun _ _ _ _ _ => pts_one (pt_cmpR op_eq (pe_has GT hr (pa_cons (pv 0) (pa_cons (pv 4) pa_nil))) pe_int (nomark _))) (fun _ _ _ _ _ => pe_tup (pa_cons (pv 5) (pa_cons (pv 6) pa_nil))))))))
      (pss_one (ps_ret (pe_has GB hr (pa_cons (pv 2) (pa_cons (pv 3) pa_nil))))))), ?_⟩
    refine ⟨_, rfl, _, rfl, r, sc, 5, rfl, hR, by decide, by decide, fun H1 t1 b1 R1 ht1 => ?_⟩
    refine ⟨_, _, rfl, rfl, Nat.zero_le _, fun c0 hc0 => ⟨_, _, rfl, ?_⟩⟩
    have s1 := same_new (o := .lst []) hc0
    have R2 := R1.same s1
    have b2 := b1.trans (.of s1)
    have hcr : c0 ≠ r := R1.ne hc0
    refine ⟨_, rfl, r, sc, 3, rfl, R2, by decide, by decide, fun H3 t3 b3 R3 ht3 => ⟨_, _, rfl, rfl, ?_⟩⟩
    have b03 := b2.trans b3
    have e1 : (1 : Int) + (t1 : Int) = ((t1 + 1 : Nat) : Int) := by omega
    have e3 : (2 : Int) + (t3 : Int) = ((t3 + 2 : Nat) : Int) := by omega
    dsimp only
    rw [e1, e3]
    obtain ⟨n, hn⟩ : ∃ n, n = t1 + 1 := ⟨_, rfl⟩
    obtain ⟨ra, hra⟩ : ∃ ra, ra = t3 + 2 := ⟨_, rfl⟩
    rw [← hn, ← hra]
    refine ⟨_, rfl, _, rfl, by show -(2 ^ 62 : Int) ≤ n; omega, by show (n : Int) < 2 ^ 62; omega, for_range (n := n) (fun i σ H' => ∃ cp xs es y5, σ = [some (.ref r), some (vi 5), some (vi n), some (.ref cp), some (vi ra), y5, none] ∧ Bar r H H' ∧ LRow K H' r sc ∧ cp ≠ r ∧ H' cp = some (.lst xs) ∧ xs.length ≤ 8 * i ∧ Paired (TP K H') xs es ∧ OkE n es)
      ⟨c0, [], [], none, rfl, b03, R3, hcr, b3 _ _ hcr upd_same, Nat.zero_le _, .nil, fun p hp => absurd hp (by simp)⟩ ?_ ?_⟩
    · rintro i σ H4 hi ⟨cp, xs, es, y5, rfl, b4, R4, hcr, hcp, hxl, pp, okE⟩
      rw [show (0 : Int) + (i : Int) = (i : Int) by omega]
      refine ⟨_, rfl, _, rfl, _, _, rfl, rfl, _, rfl, _, _, rfl, ⟨by omega, by omega, by show -(2 ^ 62 : Int) ≤ n; omega, by show (n : Int) < 2 ^ 62; omega⟩, fun D hD => lc_range (lo := (i : Int) + 1) (n := ((n : Int) - ((i : Int) + 1)).toNat) (fun j H5 => Bar r H4 H5 ∧ LRow K H5 r sc ∧ ∃ acc fs, H5 D = some (.lst acc) ∧ acc.length ≤ j ∧ Paired (TP K H5) acc fs ∧ OkE n fs)
        ⟨.of (same_new hD), R4.same (same_new hD), [], [], upd_same, Nat.zero_le _, .nil, fun p hp => absurd hp (by simp)⟩ ?_ ?_⟩
      · have hDr : D ≠ r := R4.ne hD
        rintro j H5 hj ⟨b5, R5, acc, fs, hacc, hal, pa, okf⟩
        refine ⟨rfl, ?_⟩
        refine ⟨_, rfl, _, rfl, r, sc, ra, rfl, R5, by omega, by omega, fun H6 t6 b6 R6 ht6 => ⟨rfl, _, rfl, ?_⟩⟩
        obtain ⟨lr, hlr⟩ := R5.at_
        have t56 : Tst H5 H6 := .bar hlr b6
        have hacc6 := b6 _ _ hDr hacc
        refine ite2 (fun _ => ?_) (fun _ => ?_)
        · refine ⟨_, rfl, _, rfl, by show 2 ≤ sizeLine; decide, fun tp htp => ?_⟩
          have s7 := same_new (o := .tup [vi i, .int ((i : Int) + 1 + (j : Int))]) htp
          have hDt : D ≠ tp := ne_of_none hacc6 htp
          have hacc7 := s7 _ _ hacc6
          refine ⟨acc, hacc7, small1000 (by omega), ?_, ?_, acc ++ [.ref tp], fs ++ [(i, i + 1 + j)], upd_same, by rw [List.length_append, List.length_singleton]; omega, ?_, ?_⟩
          · intro b o nb e
            rw [upd_ne (ne_of_none e hD)]
            exact s7 _ _ (b6 _ _ nb (b5 _ _ nb e))
          · exact R4.mut hD (R6.same s7)
          · have tA : Tst H5 (upd (upd H6 tp (.tup [vi i, .int ((i : Int) + 1 + (j : Int))])) D (.lst (acc ++ [.ref tp]))) := t56.trans ((Tst.of s7).trans (.lst hacc7))
            refine Paired.snoc (Paired.mapP pa fun _ _ z => z.ts tA) ⟨tp, rfl, .inl (.inl ?_)⟩
            rw [upd_ne hDt.symm, upd_same]
            show some (HO.tup [vi i, V.int ((i : Int) + 1 + (j : Int))]) = some (HO.tup [vi i, V.int ((i + 1 + j : Nat) : Int)])
            rw [show ((i : Int) + 1 + (j : Int)) = ((i + 1 + j : Nat) : Int) by omega]
          · intro p hp
            rcases List.mem_append.mp hp with hp | hp
            · exact okf p hp
            · rw [List.mem_singleton.mp hp]
              exact ⟨by show i < i + 1 + j; omega, by show i + 1 + j < n; omega⟩
        · exact ⟨b5.trans b6, R6, acc, fs, hacc6, by omega, Paired.mapP pa fun _ _ z => z.ts t56, okf⟩
      · rintro H5 ⟨b5, R5, acc, fs, hacc, hal, pa, okf⟩
        obtain ⟨l4, hl4⟩ := R4.at_
        have t45 : Tst H4 H5 := .bar hl4 b5
        have hcp5 := b5 _ _ hcr hcp
        refine ⟨cp, D, xs, acc, rfl, rfl, hcp5, hacc, Nat.le_of_lt (small1000 (by omega)), fun z hz => ?_⟩
        have sz := same_new (o := .lst (xs ++ acc)) hz
        have hzr : z ≠ r := R5.ne hz
        refine ⟨z, _, es ++ fs, _, rfl, b4.trans (b5.trans (.of sz)), R5.same sz, hzr, upd_same, by rw [List.length_append]; omega, paired_append (Paired.mapP pp fun _ _ z => z.ts (t45.trans (.of sz))) (Paired.mapP pa fun _ _ z => z.ts (.of sz)), fun p hp => ?_⟩
        rcases List.mem_append.mp hp with hp | hp
        · exact okE p hp
        · exact okf p hp
    · rintro σ H4 ⟨cp, xs, es, y5, rfl, b4, R4, hcr, hcp, hxl, pp, okE⟩
      exact ⟨_, rfl, _, rfl, _, n, es, rfl, ⟨cp, xs, rfl, .inl (.inl hcp), pp⟩, okE, by omega, fun H5 u s5 hu => q _ u n es (b4.trans (.of s5)) (R4.same s5) hu okE (by omega) (by omega)⟩
end
end Tr

/-! _law_alike. -/
namespace Tr
open PySem PySem.Spec PyProof.Rows L2
/-- the same data of whole numbers, at most d deep -/
def Al (K : PySem.W.Frag) (H : Hp) : Nat → V → V → Prop
  | 0, x, y => ∃ i : Int, x = .int i ∧ y = .int i
  | d + 1, x, y => (∃ i : Int, x = .int i ∧ y = .int i) ∨ ∃ a b xs ys, x = .ref a ∧ y = .ref b ∧ ((SqT K H a xs ∧ SqT K H b ys) ∨ (SqL K H a xs ∧ SqL K H b ys)) ∧ xs.length ≤ 2000 ∧ ys.length = xs.length ∧ ∀ (i : Nat) u v, xs[i]? = some u → ys[i]? = some v → Al K H d u v
theorem Al.same {K : PySem.W.Frag} {H H' : Hp} (s : Same H H') : ∀ {d : Nat} {x y : V}, Al K H d x y → Al K H' d x y
  | 0, _, _, h => h
  | d + 1, _, _, .inl h => .inl h
  | d + 1, _, _, .inr ⟨a, b, xs, ys, e1, e2, h, l1, l2, k⟩ => .inr ⟨a, b, xs, ys, e1, e2, h.imp (fun z => ⟨same_sqT s z.1, same_sqT s z.2⟩) (fun z => ⟨s.seq z.1, s.seq z.2⟩), l1, l2, fun i u v hu hv => Al.same s (k i u v hu hv)⟩
section
variable {P : Program} {w : World} {K : PySem.W.Frag} {mg : Str → Option Value} {base : Heap}
abbrev sAlike : Stmt := topS 27
abbrev nAl : List Str := ["_law_found", "_law_due", "_law_k"]
theorem sc27 : FnScope nAl ["_law_found", "_law_due"] (defScope sAlike) := ⟨rfl, rfl, rfl, by decide +kernel, rfl, by decide +kernel, by decide +kernel⟩
def spAlike (K : PySem.W.Frag) (d : Nat) : Sp := fun vs H Q _ => ∃ x y : V, vs = [x, y] ∧ Al K H d x y ∧ ∀ H', Same H H' → Q (.bl true) H'
theorem k2_int : PySem.W.kitAny K (.type "int") [.type "tuple", .type "list"] = some false := kitAny_cons (kit_ty (r := false) (by decide +kernel)) (fun _ => kitAny_cons (kit_ty (r := false) (by decide +kernel)) (fun _ => rfl) (fun z => nomatch z)) (fun z => nomatch z)
theorem k2_tup : PySem.W.kitAny K (.type "tuple") [.type "tuple", .type "list"] = some true := kitAny_cons (kit_ty (r := true) (by decide +kernel)) (fun z => nomatch z) (fun _ => rfl)
theorem k2_lst : PySem.W.kitAny K (.type "list") [.type "tuple", .type "list"] = some true := kitAny_cons (kit_ty (r := false) (by decide +kernel)) (fun _ => kitAny_cons (kit_ty (r := true) (by decide +kernel)) (fun z => nomatch z) (fun _ => rfl)) (fun z => nomatch z)
theorem k1_tl : PySem.W.kitOne K (.type "tuple") (.type "list") = some false := kit_ty (by decide +kernel)
theorem k1_ll : PySem.W.kitOne K (.type "list") (.type "list") = some true := kit_ty (by decide +kernel)
theorem k1_is : PySem.W.kitOne K (.type "int") (.type "str") = some false := kit_ty (by decide +kernel)
theorem k1_ii : PySem.W.kitOne K (.type "int") (.type "int") = some true := kit_ty (by decide +kernel)
theorem k1_ib : PySem.W.kitOne K (.type "int") (.type "bool") = some false := kit_ty (by decide +kernel)
theorem cl2 : Paired ClsV [.ty "tuple", .ty "list"] [.type "tuple", .type "list"] := .cons (.ty "tuple") (.cons (.ty "list") .nil)
theorem ok_alike0 {f : Addr} {fd : FuncData} (F : Fun K "_law_alike" "_law_alike" sAlike f fd) (S : Std mg) : FnOk P w K mg base CX0 1 f fd ["_law_found", "_law_due"] (spAlike K 0) := by
  have nd := sc27.nd
  refine F.ok sc27 (fun vs H Q E h => ?_) (fun cdv A outer s H vs Q E hr h => ?_)
  · obtain ⟨x, y, rfl, _⟩ := h
    rfl
  · obtain ⟨x, y, rfl, ⟨i, rfl, rfl⟩, q⟩ := h
    refine ⟨_, pss_cons (ps_if (pt_val (pe_callB call_isiT (by rfl) S.isi (by decide +kernel) (pa_cons (pv 1) (pa_cons (pe_tup (pa_cons (pe_bltn (v := .ty "tuple") (by rfl) S.tup (by decide +kernel) rfl) (pa_cons (pe_bltn (v := .ty "list") (by rfl) S.lst (by decide +kernel) rfl) pa_nil))) pa_nil)))) pss_never pss_nil)
      (pss_cons (ps_if (PW.pt (pw_or (pt_cmp (pc_isN (pv 1))) (pw_or1 (pt_val (pe_callB call_isi (by rfl) S.isi (by decide +kernel) (pa_cons (pv 1) (pa_cons (pe_bltn (v := .ty "str") (by rfl) S.str (by decide +kernel) rfl) pa_nil))))))) pss_never pss_nil)
      (pss_one (ps_ret (pe_and (pe_callB call_isi (by rfl) S.isi (by decide +kernel) (pa_cons (pv 0) (pa_cons (pe_bltn (v := .ty "int") (by rfl) S.int (by decide +kernel) rfl) pa_nil)))
        (pe_and (pe_cmpR op_eq (pe_callB call_isi (by rfl) S.isi (by decide +kernel) (pa_cons (pv 0) (pa_cons (pe_bltn (v := .ty "bool") (by rfl) S.bool (by decide +kernel) rfl) pa_nil))) (pe_callB call_isi (by rfl) S.isi (by decide +kernel) (pa_cons (pv 1) (pa_cons (pe_bltn (v := .ty "bool") (by rfl) S.bool (by decide +kernel) rfl) pa_nil))) (nomark _))
          (pe_one (pe_cmpR op_eq (pv 0) (pv 1) (nomark _)))))))), ?_⟩
    refine ⟨_, rfl, by show 2 ≤ sizeLine; decide, fun tp htp => ⟨_, tp, _, _, _, false, rfl, upd_same, cl2, ty_int i, k2_int, false, rfl, iteF ?_⟩⟩
    have s1 : Same H (upd H tp (.tup [.ty "tuple", .ty "list"])) := same_new htp
    refine ⟨_, rfl, false, rfl, iteF ⟨_, rfl, _, _, _, _, false, rfl, .ty "str", ty_int i, k1_is, false, rfl, iteF ?_⟩⟩
    refine ⟨_, rfl, _, _, _, _, true, rfl, .ty "int", ty_int i, k1_ii, true, rfl, iteT ?_⟩
    refine ⟨_, rfl, _, _, _, _, false, rfl, .ty "bool", ty_int i, k1_ib, _, rfl, _, _, _, _, false, rfl, .ty "bool", ty_int i, k1_ib, rfl, true, rfl, iteT ?_⟩
    refine ⟨_, rfl, _, rfl, rfl, ?_⟩
    have := q _ s1
    rw [← decide_eq_true (rfl : V.int i = V.int i)] at this
    exact this
theorem ok_alikeS {f : Addr} {fd : FuncData} {d : Nat} (F : Fun K "_law_alike" "_law_alike" sAlike f fd) (S : Std mg) (G : Has P w K mg base (d + 1) "_law_alike" ["_law_found", "_law_due"] (spAlike K d)) : FnOk P w K mg base CX0 (d + 1 + 1) f fd ["_law_found", "_law_due"] (spAlike K (d + 1)) := by
  have nd := sc27.nd
  refine F.ok sc27 (fun vs H Q E h => ?_) (fun cdv A outer s H vs Q E hr h => ?_)
  · obtain ⟨x, y, rfl, _⟩ := h
    rfl
  · obtain ⟨x, y, rfl, hAl, q⟩ := h
    refine ⟨_, pss_cons (ps_if (pt_val (pe_callB call_isiT (by rfl) S.isi (by decide +kernel) (pa_cons (pv 1) (pa_cons (pe_tup (pa_cons (pe_bltn (v := .ty "tuple") (by rfl) S.tup (by decide +kernel) rfl) (pa_cons (pe_bltn (v := .ty "list") (by rfl) S.lst (by decide +kernel) rfl) pa_nil))) pa_nil))))
        (pss_cons (ps_if (PW.pt (pw_or (pt_not (pt_val (pe_callB call_isiT (by rfl) S.isi (by decide +kernel) (pa_cons (pv 0) (pa_cons (pe_tup (pa_cons (pe_bltn (v := .ty "tuple") (by rfl) S.tup (by decide +kernel) rfl) (pa_cons (pe_bltn (v := .ty "list") (by rfl) S.lst (by decide +kernel) rfl) pa_nil))) pa_nil)))))
            (pw_or1 (pt_cmpR op_ne (pe_callB call_isi (by rfl) S.isi (by decide +kernel) (pa_cons (pv 0) (pa_cons (pe_bltn (v := .ty "list") (by rfl) S.lst (by decide +kernel) rfl) pa_nil))) (pe_callB call_isi (by rfl) S.isi (by decide +kernel) (pa_cons (pv 1) (pa_cons (pe_bltn (v := .ty "list") (by rfl) S.lst (by decide +kernel) rfl) pa_nil))) (nomark _))))) pss_never pss_nil)
        (pss_cons (ps_if (pt_cmpR op_ne (pe_lenOf K S.len (pa_cons (pv 0) pa_nil)) (pe_lenOf K S.len (pa_cons (pv 1) pa_nil)) (nomark _)) pss_never pss_nil)
        (pss_one (ps_ret (pe_cmpR (op_eqD hr.units) (pe_lc (own := [("_law_k", 2)]) (g := gName 2) rfl nd (pi_range1 (by rfl) S.rng (pa_cons (pe_lenOf K S.len (pa_cons (pv 1) pa_nil)) pa_nil)) (blkOk_by (own := [("_law_k", 2)]) (N := nAl) (sc := defScope sAlike) (by decide +kernel))
          (fun _ _ _ _ _ => pg_name (i := 2) nd rfl (.inl rfl)) (fun _ _ _ _ _ => pts_one (pt_not (pt_val (pe_has G hr (pa_cons (pe_ix (r := rIx K) ix_seq (pv 0) (pv 2) (fun _ _ => rfl)) (pa_cons (pe_ix (r := rIx K) ix_seq (pv 1) (pv 2) (fun _ _ => rfl)) pa_nil)))))) (fun _ _ _ _ _ => pv 2)) (pe_lst pa_nil) (nomark _)))))) pss_nil)
      (pss_cons (ps_if (PW.pt (pw_or (pt_cmp (pc_isN (pv 1))) (pw_or1 (pt_val (pe_callB call_isi (by rfl) S.isi (by decide +kernel) (pa_cons (pv 1) (pa_cons (pe_bltn (v := .ty "str") (by rfl) S.str (by decide +kernel) rfl) pa_nil))))))) pss_never pss_nil)
      (pss_one (ps_ret (pe_and (pe_callB call_isi (by rfl) S.isi (by decide +kernel) (pa_cons (pv 0) (pa_cons (pe_bltn (v := .ty "int") (by rfl) S.int (by decide +kernel) rfl) pa_nil)))
        (pe_and (pe_cmpR op_eq (pe_callB call_isi (by rfl) S.isi (by decide +kernel) (pa_cons (pv 0) (pa_cons (pe_bltn (v := .ty "bool") (by rfl) S.bool (by decide +kernel) rfl) pa_nil))) (pe_callB call_isi (by rfl) S.isi (by decide +kernel) (pa_cons (pv 1) (pa_cons (pe_bltn (v := .ty "bool") (by rfl) S.bool (by decide +kernel) rfl) pa_nil))) (nomark _))
          (pe_one (pe_cmpR op_eq (pv 0) (pv 1) (nomark _)))))))), ?_⟩
    rcases hAl with ⟨i, rfl, rfl⟩ | ⟨a, b, xs, ys, rfl, rfl, hs, hxl, hyl, hk⟩
    · refine ⟨_, rfl, by show 2 ≤ sizeLine; decide, fun tp htp => ⟨_, tp, _, _, _, false, rfl, upd_same, cl2, ty_int i, k2_int, false, rfl, iteF ?_⟩⟩
      have s1 : Same H (upd H tp (.tup [.ty "tuple", .ty "list"])) := same_new htp
      refine ⟨_, rfl, false, rfl, iteF ⟨_, rfl, _, _, _, _, false, rfl, .ty "str", ty_int i, k1_is, false, rfl, iteF ?_⟩⟩
      refine ⟨_, rfl, _, _, _, _, true, rfl, .ty "int", ty_int i, k1_ii, true, rfl, iteT ?_⟩
      refine ⟨_, rfl, _, _, _, _, false, rfl, .ty "bool", ty_int i, k1_ib, _, rfl, _, _, _, _, false, rfl, .ty "bool", ty_int i, k1_ib, rfl, true, rfl, iteT ?_⟩
      refine ⟨_, rfl, _, rfl, rfl, ?_⟩
      have := q _ s1
      rw [← decide_eq_true (rfl : V.int i = V.int i)] at this
      exact this
    · rcases hs with hs | hs
      · have sq : ∀ {H' : Hp}, Same H H' → SqT K H' a xs ∧ SqT K H' b ys := fun s => ⟨same_sqT s hs.1, same_sqT s hs.2⟩
        have lnA : ∀ {H' : Hp}, Same H H' → (SqL K H' a xs ∨ SqT K H' a xs) := fun s => .inr (sq s).1
        have lnB : ∀ {H' : Hp}, Same H H' → (SqL K H' b ys ∨ SqT K H' b ys) := fun s => .inr (sq s).2
        refine ⟨_, rfl, by show 2 ≤ sizeLine; decide, fun tp htp => ⟨_, tp, _, _, _, true, rfl, upd_same, cl2, ty_tup (sq (same_new htp)).2, k2_tup, true, rfl, iteT ?_⟩⟩
        have s1 : Same H (upd H tp (.tup [.ty "tuple", .ty "list"])) := same_new htp
        refine ⟨_, rfl, by show 2 ≤ sizeLine; decide, fun tp2 htp2 => ⟨_, tp2, _, _, _, true, rfl, upd_same, cl2, ty_tup (sq (s1.trans (same_new htp2))).1, k2_tup, true, rfl, iteF ?_⟩⟩
        have s2 := s1.trans (same_new (o := .tup [.ty "tuple", .ty "list"]) htp2)
        refine ⟨_, rfl, _, _, _, _, false, rfl, .ty "list", ty_tup (sq s2).1, k1_tl, _, rfl, _, _, _, _, false, rfl, .ty "list", ty_tup (sq s2).2, k1_tl, rfl, false, rfl, iteF ?_⟩
        refine ⟨_, rfl, a, xs, rfl, lnA s2, _, rfl, b, ys, rfl, lnB s2, rfl, _, rfl, ?_⟩
        rw [hyl, show decide (V.int (xs.length : Int) = V.int (xs.length : Int)) = true from decide_eq_true rfl]
        refine iteF ?_
        refine ⟨_, rfl, b, ys, rfl, lnB s2, ?_⟩
        rw [hyl]
        refine ⟨_, rfl, by show -(2 ^ 62 : Int) ≤ xs.length; omega, by show (xs.length : Int) < 2 ^ 62; omega, fun D hD => lcm_range (lo := 0) (n := xs.length) (fun _ _ _ => True) (fun _ => false) (fun _ _ _ _ _ z => z) hD (Nat.le_of_lt (Nat.lt_of_le_of_lt hxl (by decide))) (fun i hi H3 s3 Qf Qt qf qt => ?_) fun H3 zs s3 hzs pzs => ?_⟩
        · have sA := s2.trans s3
          have hu := List.getElem?_eq_getElem hi
          have hv := List.getElem?_eq_getElem (show i < ys.length by omega)
          rw [show (0 : Int) + (i : Int) = (i : Int) by omega]
          refine ⟨_, rfl, _, rfl, .inr (.inl ⟨a, xs, i, _, rfl, rfl, (sq sA).1, atI_nat hu, _, rfl, _, rfl, .inr (.inl ⟨b, ys, i, _, rfl, rfl, (sq sA).2, atI_nat hv, _, _, rfl, (hk i _ _ hu hv).same sA, fun H4 s4 => ⟨true, rfl, ?_⟩⟩)⟩)⟩
          exact iteF (qf rfl H4 s4)
        · have ez : zs = [] := by
            have := Paired.length pzs
            rw [List.filter_eq_nil_iff.mpr (fun _ _ => by simp)] at this
            exact List.length_eq_zero_iff.mp this
          subst ez
          refine ⟨Nat.zero_le _, fun e he => ?_⟩
          have se : Same H3 (upd H3 e (.lst [])) := same_new he
          refine ⟨.list [], .list [], .lst (.inl (.inl (se _ _ hzs))) .nil, .lst (.inl (.inl upd_same)) .nil, by decide, by decide, ?_⟩
          exact q _ (s2.trans (s3.trans se))
      · have sq : ∀ {H' : Hp}, Same H H' → SqL K H' a xs ∧ SqL K H' b ys := fun s => ⟨s.seq hs.1, s.seq hs.2⟩
        have lnA : ∀ {H' : Hp}, Same H H' → (SqL K H' a xs ∨ SqT K H' a xs) := fun s => .inl (sq s).1
        have lnB : ∀ {H' : Hp}, Same H H' → (SqL K H' b ys ∨ SqT K H' b ys) := fun s => .inl (sq s).2
        refine ⟨_, rfl, by show 2 ≤ sizeLine; decide, fun tp htp => ⟨_, tp, _, _, _, true, rfl, upd_same, cl2, ty_lst (sq (same_new htp)).2, k2_lst, true, rfl, iteT ?_⟩⟩
        have s1 : Same H (upd H tp (.tup [.ty "tuple", .ty "list"])) := same_new htp
        refine ⟨_, rfl, by show 2 ≤ sizeLine; decide, fun tp2 htp2 => ⟨_, tp2, _, _, _, true, rfl, upd_same, cl2, ty_lst (sq (s1.trans (same_new htp2))).1, k2_lst, true, rfl, iteF ?_⟩⟩
        have s2 := s1.trans (same_new (o := .tup [.ty "tuple", .ty "list"]) htp2)
        refine ⟨_, rfl, _, _, _, _, true, rfl, .ty "list", ty_lst (sq s2).1, k1_ll, _, rfl, _, _, _, _, true, rfl, .ty "list", ty_lst (sq s2).2, k1_ll, rfl, false, rfl, iteF ?_⟩
        refine ⟨_, rfl, a, xs, rfl, lnA s2, _, rfl, b, ys, rfl, lnB s2, rfl, _, rfl, ?_⟩
        rw [hyl, show decide (V.int (xs.length : Int) = V.int (xs.length : Int)) = true from decide_eq_true rfl]
        refine iteF ?_
        refine ⟨_, rfl, b, ys, rfl, lnB s2, ?_⟩
        rw [hyl]
        refine ⟨_, rfl, by show -(2 ^ 62 : Int) ≤ xs.length; omega, by show (xs.length : Int) < 2 ^ 62; omega, fun D hD => lcm_range (lo := 0) (n := xs.length) (fun _ _ _ => True) (fun _ => false) (fun _ _ _ _ _ z => z) hD (Nat.le_of_lt (Nat.lt_of_le_of_lt hxl (by decide))) (fun i hi H3 s3 Qf Qt qf qt => ?_) fun H3 zs s3 hzs pzs => ?_⟩
        · have sA := s2.trans s3
          have hu := List.getElem?_eq_getElem hi
          have hv := List.getElem?_eq_getElem (show i < ys.length by omega)
          rw [show (0 : Int) + (i : Int) = (i : Int) by omega]
          refine ⟨_, rfl, _, rfl, .inl ⟨a, xs, i, _, rfl, rfl, (sq sA).1, atI_nat hu, _, rfl, _, rfl, .inl ⟨b, ys, i, _, rfl, rfl, (sq sA).2, atI_nat hv, _, _, rfl, (hk i _ _ hu hv).same sA, fun H4 s4 => ⟨true, rfl, ?_⟩⟩⟩⟩
          exact iteF (qf rfl H4 s4)
        · have ez : zs = [] := by
            have := Paired.length pzs
            rw [List.filter_eq_nil_iff.mpr (fun _ _ => by simp)] at this
            exact List.length_eq_zero_iff.mp this
          subst ez
          refine ⟨Nat.zero_le _, fun e he => ?_⟩
          have se : Same H3 (upd H3 e (.lst [])) := same_new he
          refine ⟨.list [], .list [], .lst (.inl (.inl (se _ _ hzs))) .nil, .lst (.inl (.inl upd_same)) .nil, by decide, by decide, ?_⟩
          exact q _ (s2.trans (s3.trans se))
end
end Tr

/-! the law. -/
namespace Tr
open PySem PySem.Spec PyProof.Rows L2
theorem pe_tixK {X : Cx} {o e : Expr} {es : List Expr} {to : TE} {t : TA} {apos cpos : Pos} (K : PySem.W.Frag) (hu : X.A.units + 64 < cLine) (ho : PE X o to) (ha : PA X (e :: es) t) (hK : X.K = K := by rfl)
    (hbase : attributeBase o "index" X.env (eval o X.env) = eval o X.env := by rfl)
    (hfew : ((backTo cpos (starEach (e :: es) X.env)).all (fun x => !x.1) && (backToKw cpos (keywordEach [] X.env)).all (fun x => x.1.isSome) && decide ((e :: es).length + ([] : List Keyword).length + (if ([] : List Keyword).isEmpty then 0 else 1) < 30)) = true := by rfl)
    (hline : (apos.endLine == cpos.line) = true := by rfl) (hs : starEach (e :: es) X.env = (false, eval e X.env) :: starEach es X.env := by rfl) (plain : (backTo cpos (starEach es X.env)).any (·.1) = false := by rfl) :
    PE X (.Call (.Attribute o "index" apos) (e :: es) [] cpos) (tTix K to t) := by
  subst hK
  exact pe_tix hu ho ha hbase hfew hline hs plain
section
variable {K : PySem.W.Frag} {a : Addr} {xs : List V} {tt : L2.TT} {te : TE} {i j : Nat} {σ : L2.St} {H1 : Hp} {D : Addr} {Qd : Hp → Prop}
theorem lcm_list2 {es : List Edge} (R : Nat → Hp → V → Prop) (keep : Nat → Bool) (mono : ∀ i H H' y, Tst H H' → R i H y → R i H' y) (hD : H1 D = none) (hs : SqL K H1 a xs) (hn : xs.length ≤ sizeLine) (hp : Paired (TP K H1) xs es)
    (turn : ∀ k u v, es[k]? = some (u, v) → LcTurn tt te H1 R keep k (((wipe σ [i, j]).set i (some (vi u))).set j (some (vi v)))) (done : ∀ H ys, Same H1 H → H D = some (.lst ys) → Paired (fun y i => R i H y) ys ((List.range xs.length).filter keep) → Qd H)
    (hw : ∀ a b, wipe (((wipe σ [i, j]).set i a).set j b) [i, j] = wipe σ [i, j] := by intros; rfl) :
    ∃ W : Nat → Nat → Hp → Prop, (∃ m, W 0 m (upd H1 D (.lst []))) ∧ ∀ k m H, W k m H →
      ((Itl K a).stop k H ∧ Qd H) ∨ ((Itl K a).go k H ∧ ∃ Nx : Hp → Prop, (∀ H', Nx H' → ∃ m', m' < m ∧ W (k + 1) m' H') ∧ ∀ x H', (Itl K a).yld k H x H' → gTup K 2 (gCons (gName i) (gCons (gName j) gNil)) x (wipe σ [i, j]) H' fun σ2 H2 => wipe σ2 [i, j] = wipe σ [i, j] ∧ tt σ2 H2 fun b H3 =>
        if b = true then te σ2 H3 fun y H4 => ∃ acc, H4 D = some (.lst acc) ∧ acc.length < sizeLine ∧ Nx (upd H4 D (.lst (acc ++ [y]))) else Nx H3) := by
  refine lc_list (xs := xs) (LcP H1 D R keep) (lcp_start hD) (fun i H _ p => p.1.seq hs) (fun k x H hx p => ?_) fun H p => ?_
  · obtain ⟨⟨u, v⟩, he, t, rfl, ht⟩ := L2.paired_get hp hx
    refine ⟨t, [vi u, vi v], rfl, same_sqT p.1 ht, rfl, vi u, [vi v], rfl, vi v, [], rfl, rfl, hw _ _, turn k u v he H p.1 _ _ (fun k H3 s => lcp_skip mono p s k) fun k y H4 s r => lcp_keep mono hD ?_ p s k r⟩
    exact Nat.lt_of_lt_of_le (List.getElem?_eq_some_iff.mp hx).1 hn
  · obtain ⟨s, acc, e, q⟩ := p
    exact done H acc s e q
end
theorem al_row {K : PySem.W.Frag} {H : Hp} {x y : V} {r : List Nat} (d : Nat) (hx : TR K H x r) (hy : TR K H y r) (hl : r.length ≤ 2000) : Al K H (d + 1) x y := by
  obtain ⟨a, rfl, ha⟩ := hx
  obtain ⟨b, rfl, hb⟩ := hy
  refine .inr ⟨a, b, _, _, rfl, rfl, .inl ⟨ha, hb⟩, by rw [List.length_map]; exact hl, rfl, fun i u v hu hv => ?_⟩
  rw [hu] at hv
  cases hv
  obtain ⟨m, _, rfl⟩ := map_at hu
  cases d with
  | zero => exact ⟨_, rfl, rfl⟩
  | succ d => exact .inl ⟨_, rfl, rfl⟩
theorem al_pair {K : PySem.W.Frag} {H : Hp} {x y : V} {e : Edge} (d : Nat) (hx : TP K H x e) (hy : TP K H y e) : Al K H (d + 1) x y := al_row (r := [e.1, e.2]) d hx hy (by show 2 ≤ 2000; decide)
theorem al_of {K : PySem.W.Frag} {H : Hp} {β : Type} {R : V → β → Prop} {d : Nat} {xs ys : List V} {bs : List β} (hx : Paired R xs bs) (hy : Paired R ys bs) (h : ∀ b ∈ bs, ∀ x y, R x b → R y b → Al K H d x y) (i : Nat) (u v : V) (hu : xs[i]? = some u) (hv : ys[i]? = some v) : Al K H d u v := by
  obtain ⟨b, hb, r1⟩ := L2.paired_get hx hu
  obtain ⟨b', hb', r2⟩ := L2.paired_get hy hv
  rw [hb] at hb'
  cases hb'
  exact h b (List.mem_of_getElem? hb) u v r1 r2
theorem al_web {K : PySem.W.Frag} {H : Hp} {x y : V} {n : Nat} {ps : List Edge} (d : Nat) (hx : TW K H x (webOf n ps)) (hy : TW K H y (webOf n ps)) (h8 : n ≤ 8) : Al K H (d + 2) x y := by
  obtain ⟨a, xs, rfl, ha, px⟩ := hx
  obtain ⟨b, ys, rfl, hb, py⟩ := hy
  have l1 := (Paired.length px).trans (webOf_length n ps)
  have l2 := (Paired.length py).trans (webOf_length n ps)
  refine .inr ⟨a, b, xs, ys, rfl, rfl, .inl ⟨ha, hb⟩, by omega, by omega, al_of px py fun r hr x y h1 h2 => al_row d h1 h2 ?_⟩
  obtain ⟨v, _, rfl⟩ := List.mem_map.mp hr
  have := rowOf_length_le n ps v
  omega
theorem toF_step {α β γ : Type} {L : List α} {j : Nat} {x : α} (h : L[j]? = some x) (f : α → β) (p : β → Bool) (g : β → γ) : (((L.take (j + 1)).map f).filter p).map g = (((L.take j).map f).filter p).map g ++ (if p (f x) = true then [g (f x)] else []) := by
  rw [List.take_add_one, h, List.map_append, List.filter_append, List.map_append]
  congr 1
  show ((([x].map f).filter p).map g) = _
  rw [List.map_cons, List.map_nil, List.filter_cons]
  by_cases c : p (f x) = true
  · rw [if_pos c, if_pos c]; rfl
  · rw [if_neg c, if_neg c]; rfl
theorem lots_len {n : Nat} {ps : List Edge} {gs : List (List Nat)} (nd : gs.Nodup) (h : ∀ g, g ∈ gs ↔ ∃ q, q < n ∧ g = groupOf n ps q) : gs.length ≤ n := by
  have := nd.length_le_of_subset (l₂ := (List.range n).map (groupOf n ps)) fun g hg => by
    obtain ⟨q, hq, e⟩ := (h g).mp hg
    exact List.mem_map.mpr ⟨q, List.mem_range.mpr hq, e.symm⟩
  rwa [List.length_map, List.length_range] at this
section
variable {P : Program} {w : World} {K : PySem.W.Frag} {mg : Str → Option Value} {base : Heap}
abbrev sLaw : Stmt := topS 34
abbrev nLa : List Str := ["_law_script", "_law_row", "_law_web_here", "_law_lot", "_law_couples_here", "_law_found", "_law_marks", "_law_here", "_law_ends", "_law_one", "_law_other", "_law_at", "_law_own", "_law_tree", "_law_pair"]
theorem sc34 : FnScope nLa ["_law_script"] (defScope sLaw) := ⟨rfl, rfl, rfl, by decide +kernel, rfl, by decide +kernel, by decide +kernel⟩
def spLaw (K : PySem.W.Frag) : Sp := fun vs H Q _ => ∃ (a : Addr) (ns : List Int), vs = [.ref a] ∧ SqL K H a (ns.map V.int) ∧ ∀ H', Q (.bl true) H'
structure Calls (P : Program) (w : World) (K : PySem.W.Frag) (mg : Str → Option Value) (base : Heap) : Prop where
  web : Has P w K mg base 2 "_law_web" ["_law_row", "_law_most"] (spLawWeb K)
  pick : Has P w K mg base 2 "_law_pick" ["_law_row", "_law_kinds"] (spPick K)
  lots : Has P w K mg base 2 "_law_lots" ["_law_web_here"] (spLotsK K)
  by_ : Has P w K mg base 1 "_law_by" ["_law_many", "_law_couples_here"] (spLawBy K)
  cps : Has P w K mg base 1 "_law_couples" ["_law_web_here"] (spPairsIn K)
  sets : Has P w K mg base 1 "_law_sets" ["_law_many"] (spSets K)
  alike : Has P w K mg base 4 "_law_alike" ["_law_found", "_law_due"] (spAlike K 3)
  trees : Has P w K mg base 5 "trees" ["web"] (spTrees K)
  count : Has P w K mg base 5 "count_trees_in" ["web"] (spCountTrees K)
  most : Has P w K mg base 5 "most_leaves" ["web"] (spMost K)
  few : Has P w K mg base 5 "fewest_leaves" ["web"] (spFew K)
  common : Has P w K mg base 5 "common_pairs" ["web"] (spCommon K)
theorem ok_law {f : Addr} {fd : FuncData} (F : Fun K "law" "law" sLaw f fd) (S : Std mg) (G : Calls P w K mg base) : FnOk P w K mg base CX0 6 f fd ["_law_script"] (spLaw K) := by
  have nd := sc34.nd
  refine F.ok sc34 (fun vs H Q E h => ?_) (fun cdv A outer s H vs Q E hr h => ?_)
  · obtain ⟨a, ns, rfl, _⟩ := h
    rfl
  · obtain ⟨a, ns, rfl, hS, q⟩ := h
    have r1 := hr.mono (show 1 ≤ 5 by decide)
    have r2 := hr.mono (show 2 ≤ 5 by decide)
    have r4 := hr.mono (show 4 ≤ 5 by decide)
    have hu := hr.units
    refine ⟨_, pss_cons (ps_set (i := 1) nd rfl (.inl rfl) (pe_lst (pa_cons (pv 0) (pa_cons pe_int (pa_cons pe_int (pa_cons pe_int pa_nil))))))
      (pss_cons (ps_set (i := 2) nd rfl (.inl rfl) (pe_has G.web r2 (pa_cons (pv 1) (pa_cons pe_int pa_nil))))
      (pss_cons (ps_set (i := 3) nd rfl (.inr rfl) (pe_has G.pick r2 (pa_cons (pv 1) (pa_cons (pe_has G.lots r2 (pa_cons (pv 2) pa_nil)) pa_nil))))
      (pss_cons (ps_set (i := 2) nd rfl (.inl rfl) (pe_has G.by_ r1 (pa_cons (pe_lenOf K S.len (pa_cons (pv 3) pa_nil)) (pa_cons
          (pe_lc (own := [("_law_one", 9), ("_law_other", 10)]) (g := gTup K 2 (gCons (gName 9) (gCons (gName 10) gNil))) rfl nd (pi_list (pe_has G.cps r1 (pa_cons (pv 2) pa_nil))) (blkOk_by (own := [("_law_one", 9), ("_law_other", 10)]) (N := nLa) (sc := defScope sLaw) (by decide +kernel))
            (fun _ _ _ _ _ => pg_tup rfl (pgs_cons (pg_name (i := 9) nd rfl (.inl rfl)) (pgs_cons (pg_name (i := 10) nd rfl (.inl rfl)) pgs_nil))) (fun _ _ _ _ _ => pts_one (pt_cmpR (r := rIn K false) op_in_seq (pv 9) (pv 3) rfl))
            (fun _ _ _ _ _ => pe_tup (pa_cons (pe_tixK K hu (pv 3) (pa_cons (pv 9) pa_nil)) (pa_cons (pe_tixK K hu (pv 3) (pa_cons (pv 10) pa_nil)) pa_nil)))) pa_nil))))
      (pss_cons (ps_asg (pe_tup (pa_cons (pe_has G.cps r1 (pa_cons (pv 2) pa_nil)) (pa_cons (pe_lst pa_nil) pa_nil))) (pg_tup rfl (pgs_cons (pg_name (i := 4) nd rfl (.inr rfl)) (pgs_cons (pg_name (i := 5) nd rfl (.inr rfl)) pgs_nil))))
      (pss_cons (ps_for PassesOwn.never rfl (pi_list (pe_has G.sets r1 (pa_cons (pe_lenOf K S.len (pa_cons (pv 4) pa_nil)) pa_nil))) (pg_name (i := 6) nd rfl (.inl rfl))
        (pss_one (ps_if (pt_cmpR op_eq (pe_lenOf K S.len (pa_cons (pv 6) pa_nil)) (pe_op op_sub (pe_lenOf K S.len (pa_cons (pv 2) pa_nil)) pe_int) (nomark _))
          (pss_cons (ps_set (i := 7) nd rfl (.inl rfl) (pe_has G.by_ r1 (pa_cons (pe_lenOf K S.len (pa_cons (pv 2) pa_nil)) (pa_cons
              (pe_lc (own := [("_law_at", 11)]) (g := gName 11) (tt := tYes) rfl nd (pi_tup (pv 6)) (blkOk_by (own := [("_law_at", 11)]) (N := nLa) (sc := defScope sLaw) (by decide +kernel))
                (fun _ _ _ _ _ => pg_name (i := 11) nd rfl (.inl rfl)) (fun _ _ _ _ _ => pts_nil) (fun _ _ _ _ _ => pe_ixL K (pv 4) (pv 11))) pa_nil))))
          (pss_one (ps_if (pt_cmpR op_eq (pe_lenOf K S.len (pa_cons (pe_has G.lots r2 (pa_cons (pv 7) pa_nil)) pa_nil)) pe_int (nomark _))
            (pss_one (ps_expr (pe_bm PySem.F.plainAttrs_list PySem.F.slot_list_append PySem.F.type_list_append mt_append (pv 5) (pa_cons (pv 7) pa_nil)))) pss_nil))) pss_nil)))
      (pss_cons (ps_set (i := 5) nd rfl (.inr rfl) (pe_callB (cr_sortD (enc := dW) hu) (by rfl) S.srt (by decide +kernel) (pa_cons (pv 5) pa_nil)))
      (pss_cons (ps_if (PW.pt (pw_or (pt_not (pt_val (pe_has G.alike r4 (pa_cons (pe_has G.trees hr (pa_cons (pv 2) pa_nil)) (pa_cons (pv 5) pa_nil))))) (pw_or1 (pt_not (pt_val (pe_has G.alike r4 (pa_cons (pe_has G.count hr (pa_cons (pv 2) pa_nil)) (pa_cons (pe_lenOf K S.len (pa_cons (pv 5) pa_nil)) pa_nil)))))))) pss_never pss_nil)
      (pss_cons (ps_setLc (i := 8) (own := [("_law_tree", 13)]) (g := gName 13) (tt := tYes) (by rfl) nd rfl rfl (sw_true rfl rfl rfl (by decide +kernel)) (pi_list (pv 5)) (blkOk_by (own := [("_law_tree", 13)]) (N := nLa) (sc := defScope sLaw) (by decide +kernel))
        (fun _ _ _ _ _ => pg_name (i := 13) nd rfl (.inl rfl)) (fun _ _ _ _ _ => pts_nil) (fun _ _ _ _ _ => pe_lenOf K S.len (pa_cons
          (pe_lc (own := [("_law_own", 12)]) (g := gName 12) (wi := iTup K (tVar 13)) rfl nd (pi_tup (pv 13)) (blkOk_by (own := [("_law_own", 12)]) (N := nLa) (sc := { kind := .function, names := [(".0", .local), ("_law_tree", .local), ("len", .globalImplicit)], isGenerator := false, isCoroutine := false }) (scope := { kind := .function, names := [(".0", .local), ("_law_own", .local), ("len", .globalImplicit)], isGenerator := false, isCoroutine := false }) (by decide +kernel))
            (fun _ _ _ _ _ => pg_name (i := 12) nd rfl (.inl rfl)) (fun _ _ _ _ _ => pts_one (pt_cmpR op_eq (pe_lenOf K S.len (pa_cons (pv 12) pa_nil)) pe_int (nomark _))) (fun _ _ _ _ _ => pv 12)) pa_nil)))
      (pss_cons (ps_if (pt_not (pt_val (pe_has G.alike r4 (pa_cons (pe_has G.most hr (pa_cons (pv 2) pa_nil)) (pa_cons (pe_tup (pa_cons (pe_callB (cr_max rfl) (by rfl) S.max (by decide +kernel) (pa_cons (pv 8) pa_nil)) (pa_cons (pe_ixL K (pv 5) (pe_bm PySem.F.plainAttrs_list PySem.F.slot_list_index PySem.F.type_list_index mt_index (pv 8) (pa_cons (pe_callB (cr_max rfl) (by rfl) S.max (by decide +kernel) (pa_cons (pv 8) pa_nil)) pa_nil))) pa_nil))) pa_nil))))) pss_never pss_nil)
      (pss_cons (ps_if (pt_not (pt_val (pe_has G.alike r4 (pa_cons (pe_has G.few hr (pa_cons (pv 2) pa_nil)) (pa_cons (pe_tup (pa_cons (pe_callB (cr_min rfl) (by rfl) S.min (by decide +kernel) (pa_cons (pv 8) pa_nil)) (pa_cons (pe_ixL K (pv 5) (pe_bm PySem.F.plainAttrs_list PySem.F.slot_list_index PySem.F.type_list_index mt_index (pv 8) (pa_cons (pe_callB (cr_min rfl) (by rfl) S.min (by decide +kernel) (pa_cons (pv 8) pa_nil)) pa_nil))) pa_nil))) pa_nil))))) pss_never pss_nil)
      (pss_one (ps_ret (pe_has G.alike r4 (pa_cons (pe_has G.common hr (pa_cons (pv 2) pa_nil)) (pa_cons (pe_tupOf K S.tup (pa_cons
        (pe_lc (own := [("_law_pair", 14)]) (g := gName 14) rfl nd (pi_list (pv 4)) (blkOk_by (own := [("_law_pair", 14)]) (N := nLa) (sc := defScope sLaw) (by decide +kernel))
          (fun _ _ _ _ _ => pg_name (i := 14) nd rfl (.inr rfl)) (fun _ _ _ _ _ => pts_one (pt_cmpR (r := rEqD K) (op_eqD hu)
            (pe_lc (own := [("_law_tree", 13)]) (g := gName 13) (wi := iList K (tVar 5)) rfl nd (pi_list (pv 5)) (blkOk_by (own := [("_law_tree", 13)]) (N := nLa) (sc := { kind := .function, names := [(".0", .local), ("_law_pair", .cell), ("_law_found", .cell)], isGenerator := false, isCoroutine := false }) (scope := { kind := .function, names := [(".0", .local), ("_law_tree", .local), ("_law_pair", .free)], isGenerator := false, isCoroutine := false }) (by decide +kernel))
              (fun _ _ _ _ _ => pg_name (i := 13) nd rfl (.inl rfl)) (fun _ _ _ _ _ => pts_one (pt_cmpR (r := rIn K true) op_notIn_seq (pe_ixT K (pv 14) pe_int) (pe_ixT K (pv 13) (pe_ixT K (pv 14) pe_int)) rfl)) (fun _ _ _ _ _ => pv 13))
            (pe_lst pa_nil) (nomark _))) (fun _ _ _ _ _ => pv 14)) pa_nil)) pa_nil))))))))))))))), ?_⟩
    -- the row, the web, the lot
    refine ⟨_, rfl, by show 4 ≤ sizeLine; decide, fun r hr0 => ?_⟩
    have R0 : LRow K (upd H r (.lst [.ref a, .int 0, .int 9829, .int 0])) r a := ⟨ns, 0, 9829, 0, by rw [upd_same]; rfl, (same_new hr0).seq hS, by decide, by decide⟩
    refine ⟨_, rfl, r, a, rfl, R0, fun H1 u n0 ps0 b1 R1 hw0 ok0 h10 h50 => ?_⟩
    refine ⟨_, rfl, _, rfl, u, n0, ps0, rfl, hw0, ok0, h10, by omega, fun H2 pl xs gs s2 hpl0 hpl pz ndg hg => ?_⟩
    have hgl := lots_len ndg hg
    have hgpos : 1 ≤ gs.length := List.length_pos_of_mem ((hg _).mpr ⟨0, by omega, rfl⟩)
    have hxg : xs.length = gs.length := Paired.length pz
    refine ⟨r, a, pl, xs, rfl, R1.same s2, hpl, R1.ne hpl0, by omega, by omega, fun H3 t x b3 R3 hx => ?_⟩
    obtain ⟨g, hgt, hzx⟩ := L2.paired_get pz hx
    obtain ⟨p, hp, rfl⟩ := (hg g).mp (List.mem_of_getElem? hgt)
    obtain ⟨l2, hl2⟩ := (R1.same s2).at_
    have t23 : Tst H2 H3 := .bar hl2 b3
    have hw3 : TW K H3 u (webOf n0 ps0) := (hw0.ts (.of s2)).ts t23
    obtain ⟨al, ob, rfl, hal, hob⟩ := hzx.ts t23
    have halT : SqT K H3 al ((groupOf n0 ps0 p).map vi) := .inl (.inr ⟨ob, hal⟩)
    clear hzx t23 hl2 R3 hx hgt hgl hgpos hxg hg ndg pz hpl hpl0 s2 hw0 R1 R0 b1 b3
    -- the web of the lot
    have okp := pairsOf_ok ok0
    have hcp := couples_ok (p := p) ok0
    obtain ⟨n, hn⟩ : ∃ n, n = (groupOf n0 ps0 p).length := ⟨_, rfl⟩
    have h1 : 1 ≤ n := by rw [hn]; exact group_pos hp
    have h5 : n ≤ 5 := by rw [hn]; exact Nat.le_trans group_le h50
    have grp : groupOf n0 (pairsOf (webOf n0 ps0)) p = groupOf n0 ps0 p := by
      unfold groupOf
      refine List.filter_congr fun v _ => decide_eq_decide.mpr ⟨fun z => cn_mono (fun e he => (mem_pairsOf ok0 e).mp he) z, fun z => cn_mono (fun e he => (mem_pairsOf ok0 e).mpr he) z⟩
    obtain ⟨c0, hc0⟩ : ∃ c0, c0 = couplesOf (groupOf n0 ps0 p) (pairsOf (webOf n0 ps0)) := ⟨_, rfl⟩
    have okc0 : OkE n c0 := by
      have := couples_ok (p := p) okp
      rw [grp] at this
      rw [hn, hc0]; exact this
    have con0 : Conn n c0 := by
      have := couples_conn (p := p) okp hp
      rw [grp] at this
      rw [hn, hc0]; exact this
    refine ⟨_, rfl, al, _, rfl, .inr halT, ?_⟩
    refine ⟨_, rfl, u, n0, ps0, rfl, hw3, by omega, fun H4 pl4 es s4 _ hpl4 pp4 => ⟨pl4, rfl, ⟨_, .inl (.inl hpl4)⟩, fun D hD => ?_⟩⟩
    have hel : es.length = (pairsOf (webOf n0 ps0)).length := Paired.length pp4
    have hel10 := edges_len (pairsOf_nodup (n := n0) (ps := ps0)) okp h50
    refine lcm_list2 (K := K) (i := 9) (j := 10) (es := pairsOf (webOf n0 ps0)) (fun k H y => ∃ e, (pairsOf (webOf n0 ps0))[k]? = some e ∧ TP K H y (ixOf (groupOf n0 ps0 p) e.1, ixOf (groupOf n0 ps0 p) e.2)) (fun k => decide (((pairsOf (webOf n0 ps0)).getD k (0, 0)).1 ∈ groupOf n0 ps0 p)) (fun _ _ _ _ t ⟨e, h1, h2⟩ => ⟨e, h1, h2.ts t⟩) hD (.inl (.inl hpl4)) (Nat.le_of_lt (small1000 (by omega))) pp4 (fun k a1 a2 hk H5 s5 Qf Qt qf qt => ?_) fun H5 ys s5 hys pys => ?_
    · have kf : (fun k => decide (((pairsOf (webOf n0 ps0)).getD k (0, 0)).1 ∈ groupOf n0 ps0 p)) k = decide (a1 ∈ groupOf n0 ps0 p) := by
        show decide (((pairsOf (webOf n0 ps0)).getD k (0, 0)).1 ∈ groupOf n0 ps0 p) = _
        rw [List.getD_eq_getElem?_getD, hk]; rfl
      have s45 := s4.trans s5
      have hal5 := s45 _ _ hal
      have halT5 := same_sqT s45 halT
      refine ⟨_, rfl, _, rfl, al, _, rfl, .inr halT5, rfl, flat_vi _, _, rfl, ?_⟩
      show if (inV (vi a1) ((groupOf n0 ps0 p).map vi)) = true then _ else _
      rw [inV_vi]
      by_cases c : a1 ∈ groupOf n0 ps0 p
      · rw [decide_eq_true c]
        have c2 : a2 ∈ groupOf n0 ps0 p := by
          have := edge_in (p := p) okp (List.mem_of_getElem? hk) (by rw [grp]; exact c)
          rwa [grp] at this
        refine iteT ⟨_, rfl, al, ob, _, rfl, hal5, hob, _, rfl, groupOf n0 ps0 p, a1, halT5, rfl, c, _, rfl, al, ob, _, rfl, hal5, hob, _, rfl, groupOf n0 ps0 p, a2, halT5, rfl, c2, by show 2 ≤ sizeLine; decide, fun tp htp => qt (kf.trans (decide_eq_true c)) _ _ (same_new htp) ⟨_, hk, tp, rfl, .inl (.inl upd_same)⟩⟩
      · rw [decide_eq_false c]
        exact iteF (qf (kf.trans (decide_eq_false c)) _ (.refl _))
    · rw [hel] at pys
      have pys2 : Paired (TP K H5) ys c0 := by
        rw [hc0]
        exact paired_filter (f := fun e : Edge => (ixOf (groupOf n0 ps0 p) e.1, ixOf (groupOf n0 ps0 p) e.2)) (p := fun e : Edge => decide (e.1 ∈ groupOf n0 ps0 p)) (R := TP K H5) (0, 0) pys
      refine ⟨.ref D, n, c0, by rw [hn, List.length_map]; rfl, ⟨D, ys, rfl, .inl (.inl hys), pys2⟩, okc0, by omega, fun H6 w6 s6 hw6 => ?_⟩
      clear pys2 pys hys s5 hD hel hel10 pp4 hpl4 s4 hal halT hw3 hcp
      -- its couples; all sets of them
      obtain ⟨cs, hcs⟩ : ∃ cs, cs = pairsOf (webOf n c0) := ⟨_, rfl⟩
      have ndc : cs.Nodup := by rw [hcs]; exact pairsOf_nodup
      have okc : OkE n cs := by rw [hcs]; exact pairsOf_ok okc0
      have hc10 := edges_len ndc okc h5
      refine ⟨_, rfl, w6, n, c0, rfl, hw6, by omega, fun H7 cl cxs s7 _ hcl pcl => ⟨Nat.zero_le _, fun fo hfo => ⟨by show 2 ≤ sizeLine; decide, fun tq htq => ⟨tq, [.ref cl, .ref fo], rfl, .inl (.inl upd_same), rfl, .ref cl, [.ref fo], rfl, .ref fo, [], rfl, rfl, ?_⟩⟩⟩⟩
      rw [← hcs] at pcl
      have hfocl : cl ≠ fo := ne_of_none hcl hfo
      have s8 : Same H7 (upd (upd H7 fo (.lst [])) tq (.tup [.ref cl, .ref fo])) := (same_new hfo).trans (same_new htq)
      have hfo8 : (upd (upd H7 fo (.lst [])) tq (.tup [.ref cl, .ref fo])) fo = some (.lst []) := (same_new htq) _ _ upd_same
      have hcl8 := s8 _ _ hcl
      have hcxl : cxs.length = cs.length := Paired.length pcl
      refine ⟨_, rfl, cl, cxs, rfl, .inl (.inl (.inl hcl8)), cs.length, by rw [hcxl]; rfl, hc10, fun H9 sl sxs s9 hsl0 hsl psl => ?_⟩
      have hsll : sxs.length ≤ 1024 := by
        rw [Paired.length psl, subsL_length, List.length_range]
        exact Nat.le_trans (Nat.pow_le_pow_right (by decide) hc10) (by decide)
      have hfosl : sl ≠ fo := fun z => ne_of_none hfo8 (z ▸ hsl0) rfl
      have hw9 : TW K H9 w6 (webOf n c0) := (hw6.ts (.of s7)).ts (.of (s8.trans s9))
      have pcl9 : Paired (TP K H9) cxs cs := Paired.mapP pcl fun _ _ z => z.ts (.of (s8.trans s9))
      have places := subsL_places (0, 0) cs
      refine ⟨sl, rfl, ⟨_, .inl (.inl hsl)⟩, for_list (K := K) (xs := sxs) (fun j σ H' => (∃ y6 y7, σ = [some (.ref a), some (.ref r), some w6, some (.ref al), some (.ref cl), some (.ref fo), y6, y7, none, none, none, none, none, none, none]) ∧ Tst H9 H' ∧ H' cl = some (.lst cxs) ∧ H' sl = some (.lst sxs) ∧ ∃ acc, H' fo = some (.lst acc) ∧ acc.length ≤ j ∧ Paired (TW K H') acc (((((subsL (List.range cs.length)).take j).map (List.map fun i => cs.getD i (0, 0))).filter (isTreeB n)).map (webOf n)))
        ⟨⟨_, _, rfl⟩, .refl _, s9 _ _ hcl8, hsl, [], s9 _ _ hfo8, Nat.le_refl _, by rw [List.take_zero]; exact .nil⟩ (fun j σ H' _ z => .inl (.inl z.2.2.2.1)) ?_ ?_⟩
      · rintro j x σ H' hj ⟨⟨y6, y7, rfl⟩, t9, hcl', hsl', acc, hacc, hal', pacc⟩
        obtain ⟨mk, hmk, xm, rfl, hxm⟩ := L2.paired_get psl hj
        obtain ⟨F, hF⟩ : ∃ F, F = mk.map fun i => cs.getD i (0, 0) := ⟨_, rfl⟩
        have hFs : F ∈ subsL cs := by
          rw [← places, hF]
          exact List.mem_map_of_mem (List.mem_of_getElem? hmk)
        have hFsub := mem_subsL.mp hFs
        have okF : OkE n F := okc.sub fun e he => hFsub.subset he
        have hmks := mem_subsL.mp (List.mem_of_getElem? hmk)
        have hFl : F.length = mk.length := by rw [hF, List.length_map]
        have hmkl : mk.length ≤ 10 := by
          have := hmks.length_le
          rw [List.length_range] at this
          omega
        have stp := toF_step hmk (List.map fun i => cs.getD i (0, 0)) (isTreeB n) (webOf n)
        rw [← hF] at stp
        have hxm' := t9.sqT hxm
        have hw' := hw9.ts t9
        obtain ⟨b6, vs6, rfl, hb6, hp6⟩ := id hw'
        have hl6 : vs6.length = n := (Paired.length hp6).trans (webOf_length n c0)
        refine ⟨_, rfl, xm, _, rfl, .inr hxm', _, rfl, b6, vs6, rfl, .inr hb6, _, _, rfl, rfl, rfl, _, rfl, ?_⟩
        rw [List.length_map, hl6]
        by_cases c : F.length + 1 = n
        · rw [show decide (V.int (mk.length : Int) = V.int ((n : Int) - 1)) = true from decide_eq_true (congrArg V.int (by omega))]
          refine iteT ?_
          refine ⟨_, rfl, b6, vs6, rfl, .inr hb6, ?_⟩
          refine ⟨_, rfl, xm, rfl, ⟨_, hxm'⟩, fun D2 hD2 => lcm_tup (K := K) (fun k H y => ∃ i, mk[k]? = some i ∧ TP K H y (cs.getD i (0, 0))) (fun _ => true) (fun _ _ _ _ t ⟨e, h1, h2⟩ => ⟨e, h1, h2.ts t⟩) hD2 hxm' (by rw [List.length_map]; exact Nat.le_of_lt (small1000 (by omega))) ?_ fun H10 ys10 s10 hys10 pys10 => ?_⟩
          · intro k y hy
            obtain ⟨i, hi, rfl⟩ := map_at hy
            have hil : i < cs.length := List.mem_range.mp (hmks.subset (List.mem_of_getElem? hi))
            refine lct_yes fun H10 s10 Qt q10 => ?_
            obtain ⟨v, hv, hvt⟩ := paired_at pcl9 (List.getElem?_eq_getElem hil)
            refine ⟨_, rfl, _, rfl, cl, cxs, i, v, rfl, rfl, .inl (.inl (s10 _ _ hcl')), atI_nat hv, q10 _ _ (.refl _) ⟨i, hi, ?_⟩⟩
            rw [List.getD_eq_getElem?_getD, List.getElem?_eq_getElem hil]
            exact (hvt.ts t9).ts (.of s10)
          · rw [filter_all, List.length_map] at pys10
            have pys11 : Paired (TP K H10) ys10 F := by
              rw [hF]
              exact paired_mapr (f := fun i => cs.getD i (0, 0)) (R := TP K H10) (paired_getm (R := fun y i => TP K H10 y (cs.getD i (0, 0))) 0 pys10)
            refine ⟨.ref D2, n, F, by rw [hl6]; rfl, ⟨D2, ys10, rfl, .inl (.inl hys10), pys11⟩, okF, by omega, fun H11 u11 s11 hu11 => ?_⟩
            refine ⟨_, rfl, u11, n, F, rfl, hu11, okF, h1, by omega, fun H12 pl12 xs12 gs12 s12 _ hpl12 pz12 nd12 hg12 => ?_⟩
            have hx12 : xs12.length = cnt n F := (Paired.length pz12).trans (groups_cnt okF nd12 hg12)
            have sA : Same H' H12 := s10.trans (s11.trans s12)
            refine ⟨pl12, xs12, rfl, .inl (.inl (.inl hpl12)), rfl, _, rfl, ?_⟩
            rw [hx12]
            by_cases e : cnt n F = 1
            · rw [show decide (V.int (cnt n F : Int) = V.int 1) = true from decide_eq_true (by rw [e]; rfl)]
              rw [if_pos (isTreeB_iff.mpr ⟨c, e⟩)] at stp
              have hacc12 := sA _ _ hacc
              have hj1 : j < 1024 := Nat.lt_of_lt_of_le (List.getElem?_eq_some_iff.mp hj).1 hsll
              obtain ⟨b11, vs11, rfl, hb11, hp11⟩ := id hu11
              refine iteT ⟨_, rfl, .inl ⟨rfl, _, .inl (.inl hacc12)⟩, _, rfl, fo, _, _, rfl, rfl, hacc12, Nat.lt_of_le_of_lt hal' (Nat.lt_trans hj1 (by decide)), ?_⟩
              have tU : Tst H12 (upd H12 fo (.lst (acc ++ [.ref b11]))) := .lst hacc12
              refine ⟨⟨_, _, rfl⟩, t9.trans ((Tst.of sA).trans tU), by rw [upd_ne hfocl]; exact sA _ _ hcl', by rw [upd_ne hfosl]; exact sA _ _ hsl', _, upd_same, by rw [List.length_append, List.length_singleton]; omega, ?_⟩
              rw [stp]
              exact Paired.snoc (Paired.mapP pacc fun _ _ z => z.ts ((Tst.of sA).trans tU)) ((hu11.ts (.of s12)).ts tU)
            · rw [show decide (V.int (cnt n F : Int) = V.int 1) = false from decide_eq_false fun z => e (by have := V.int.inj z; omega)]
              rw [if_neg (fun z => e (isTreeB_iff.mp z).2), List.append_nil] at stp
              refine iteF ⟨⟨_, _, rfl⟩, t9.trans (.of sA), sA _ _ hcl', sA _ _ hsl', acc, sA _ _ hacc, by omega, ?_⟩
              rw [stp]
              exact Paired.mapP pacc fun _ _ z => z.ts (.of sA)
        · rw [show decide (V.int (mk.length : Int) = V.int ((n : Int) - 1)) = false from decide_eq_false fun z => c (by have := V.int.inj z; omega)]
          rw [if_neg (fun z => c (isTreeB_iff.mp z).1), List.append_nil] at stp
          refine iteF ⟨⟨_, _, rfl⟩, t9, hcl', hsl', acc, hacc, by omega, ?_⟩
          rw [stp]
          exact pacc
      · rintro σ H' ⟨⟨y6, y7, rfl⟩, t9, hcl', hsl', acc, hacc, hal', pacc⟩
        rw [show sxs.length = (subsL (List.range cs.length)).length from Paired.length psl, List.take_length, places] at pacc
        have pacc : Paired (TW K H') acc (cands n cs) := pacc
        have hwE := hw9.ts t9
        have pclE : Paired (TP K H') cxs cs := Paired.mapP pcl9 fun _ _ z => z.ts t9
        clear pcl pcl9 psl hw9 t9 hsl' hfosl hsll places s9 s8 hfo8 hcl8 hfocl
        -- sorted
        have cnd : ∀ t ∈ cands n cs, ∃ F, t = webOf n F := fun t ht => let ⟨F, _, _, _, e⟩ := mem_cands.mp ht; ⟨F, e⟩
        refine ⟨_, rfl, fo, acc, cands n cs, TW K H', rfl, .inl (.inl hacc), pacc, fun _ _ z => z.dp, ?_, .inl ?_, fun t _ => Nat.le_trans (depth_dW t) (by decide), fun fp zs hfp pz => ?_⟩
        · intro x hx y hy
          obtain ⟨t, _, rfl⟩ := List.mem_map.mp hx
          obtain ⟨t', _, rfl⟩ := List.mem_map.mp hy
          exact alike_dW t t'
        · intro x hx
          obtain ⟨t, ht, rfl⟩ := List.mem_map.mp hx
          obtain ⟨F, rfl⟩ := cnd t ht
          exact ty_dW h1
        rw [le_dW] at pz
        have sS : Same H' (upd H' fp (.lst zs)) := same_new hfp
        obtain ⟨HS, hHS⟩ : ∃ HS, HS = upd H' fp (.lst zs) := ⟨_, rfl⟩
        rw [← hHS] at sS ⊢
        have pzs : Paired (TW K HS) zs (treesOf n cs) := Paired.mapP pz fun _ _ z => TW.ts (.of sS) z.2
        have hfpS : HS fp = some (.lst zs) := by rw [hHS]; exact upd_same
        have hclS : HS cl = some (.lst cxs) := sS _ _ hcl'
        have hwS : TW K HS w6 (webOf n c0) := hwE.ts (.of sS)
        have pclS : Paired (TP K HS) cxs cs := Paired.mapP pclE fun _ _ z => z.ts (.of sS)
        have ask : ∀ {Hx : Hp}, Same HS Hx → Ask K Hx w6 n c0 := fun s => ⟨hwS.ts (.of s), okc0, con0, h1, h5⟩
        obtain ⟨T, hT⟩ : ∃ T, T = treesOf n cs := ⟨_, rfl⟩
        have hTT : TT n c0 = T := by rw [hT, hcs]
        have tnd : ∀ t ∈ T, ∃ F, t = webOf n F := fun t ht => cnd t (mem_treesOf.mp (by rw [← hT]; exact ht))
        have htl : T.length ≤ 1024 := by rw [← hTT]; exact trees_len okc0 h5
        rw [← hT] at pzs
        have hzl : zs.length = T.length := Paired.length pzs
        have hzl2 : zs.length ≤ 1024 := by omega
        clear pz hHS sS pacc hacc hcl' hwE pclE hw6 hT cnd hal'
        have pzX : ∀ {Hx : Hp}, Same HS Hx → Paired (TW K Hx) zs T := fun s => Paired.mapP pzs fun _ _ z => z.ts (.of s)
        -- trees, count_trees_in
        refine ⟨_, rfl, w6, n, c0, rfl, ask (.refl _), fun H12 tp txs s12 htp ptx => ⟨_, rfl, .ref tp, .ref fp, rfl, .inr ⟨tp, fp, txs, zs, rfl, rfl, .inr ⟨.inl (.inl htp), .inl (.inl (s12 _ _ hfpS))⟩, ?_, ?_, ?_⟩, fun H13 s13 => ⟨true, rfl, iteF ?_⟩⟩⟩
        · rw [Paired.length ptx, hTT]; omega
        · rw [Paired.length ptx, hTT]; exact hzl
        · rw [hTT] at ptx
          refine al_of ptx (pzX s12) fun t ht x y h1 h2 => ?_
          obtain ⟨F, rfl⟩ := tnd t ht
          exact al_web 0 h1 h2 (by omega)
        have t13 := s12.trans s13
        refine ⟨_, rfl, w6, n, c0, rfl, ask t13, fun H14 s14 => ⟨_, rfl, fp, zs, rfl, .inl (.inl (.inl ((t13.trans s14) _ _ hfpS))), _, _, rfl, .inl ⟨(zs.length : Int), by rw [hTT, hzl]; rfl, rfl⟩, fun H15 s15 => ⟨true, rfl, iteF ?_⟩⟩⟩
        have t15 := t13.trans (s14.trans s15)
        -- the ends
        refine ⟨_, rfl, fp, rfl, ⟨_, .inl (.inl (t15 _ _ hfpS))⟩, fun D hD => lcm_list (K := K) (fun i H y => ∃ t, T[i]? = some t ∧ y = vi (leaves t)) (fun _ => true) (fun _ _ _ _ _ z => z) hD (.inl (.inl (t15 _ _ hfpS))) (Nat.le_of_lt (lt1024 hzl2)) ?_ fun H16 ys16 s16 hys16 pys16 => ?_⟩
        · intro i x hx
          obtain ⟨t, ht, hxt⟩ := L2.paired_get (pzX t15) hx
          obtain ⟨F, eF⟩ := tnd t (List.mem_of_getElem? ht)
          refine lct_yes fun H16 s16 Qt q16 => ?_
          dsimp only [tCons, tCB]
          refine leaf_lc (m := 12) (j := 13) (t := t) (v := x) ?_ ?_ (hxt.ts (.of s16)) (by rw [eF, webOf_length]; omega) (fun x σ' H' Qt hx k => ⟨_, hx, k _⟩) fun H17 D17 ys17 s17 h17 l17 => ?_
          · exact (by decide : 12 < 15)
          · rfl
          · refine ⟨D17, ys17, rfl, .inl (.inl (.inl h17)), q16 _ _ s17 ⟨t, ht, ?_⟩⟩
            rw [l17]; rfl
        · rw [filter_all, hzl] at pys16
          have eys : ys16 = T.map (fun t => vi (leaves t)) := paired_eq (paired_getm [] pys16)
          have eysI : ys16 = (nts (T.map leaves)).map V.int := by rw [nts_v, eys, List.map_map]; rfl
          have hflat : ys16.all flatV = true := by rw [eysI, nts_v]; exact flat_vi _
          have t16 := t15.trans s16
          have hTpos : 0 < T.length := List.length_pos_iff.mpr (by rw [← hTT]; exact trees_some h1 okc0 con0)
          have hnl : 0 < (nts (T.map leaves)).length := by unfold nts; rw [List.length_map, List.length_map]; exact hTpos
          have gat : ∀ {i : Nat} {b : Web}, T[i]? = some b → ys16[i]? = some (vi (leaves b)) := fun h => by rw [eys, List.getElem?_map, h]; rfl
          have gat' : ∀ {i : Nat} {z : V}, ys16[i]? = some z → ∃ b, T[i]? = some b ∧ z = vi (leaves b) := fun {i z} h => by
            rw [eys, List.getElem?_map] at h
            cases e : T[i]? with
            | none => rw [e] at h; cases h
            | some b => rw [e] at h; exact ⟨b, rfl, (Option.some.inj h).symm⟩
          have mem_m : ∀ {m : Int}, m ∈ nts (T.map leaves) → ∃ b ∈ T, m = (leaves b : Int) := fun {m} h => by
            obtain ⟨k, hk, rfl⟩ := mem_nts.mp h
            obtain ⟨b, hb, rfl⟩ := List.mem_map.mp hk
            exact ⟨b, hb, rfl⟩
          have mem_l : ∀ {b : Web}, b ∈ T → (leaves b : Int) ∈ nts (T.map leaves) := fun h => mem_nts.mpr ⟨_, List.mem_map_of_mem h, rfl⟩
          -- most_leaves
          refine ⟨_, rfl, w6, n, c0, rfl, ask t16, fun H17 y x b i s17 hy hx hM => ?_⟩
          rw [hTT] at hM
          have t17 := t16.trans s17
          have hys17 := s17 _ _ hys16
          have hbT := List.mem_of_getElem? hM.at_
          obtain ⟨v, hv, hvt⟩ := paired_at (pzX t17) hM.at_
          have isM : ∀ {m : Int}, m ∈ nts (T.map leaves) → (∀ y, y ∈ nts (T.map leaves) → y ≤ m) → m = (leaves b : Int) := fun {m} h1 h2 => by
            obtain ⟨b', hb', e⟩ := mem_m h1
            have := h2 _ (mem_l hbT)
            have := hM.le b' hb'
            omega
          refine ⟨_, rfl, D, nts (T.map leaves), rfl, by rw [← eysI]; exact .inl (.inl hys17), hnl, fun m hm hmax => ?_⟩
          cases isM hm hmax
          refine ⟨_, rfl, _, rfl, .inl ⟨rfl, _, .inl (.inl hys17)⟩, _, rfl, D, nts (T.map leaves), rfl, by rw [← eysI]; exact .inl (.inl hys17), hnl, fun m2 hm2 hmax2 => ?_⟩
          cases isM hm2 hmax2
          refine ⟨D, ys16, _, i, _, rfl, rfl, .inl (.inl hys17), rfl, hflat, gat hM.at_, (beq_self_eq_true (leaves b : Int) : _), fun j z hj hz => ?_, ?_⟩
          · obtain ⟨b', hb', rfl⟩ := gat' hz
            have := hM.first j b' hj hb'
            exact beq_eq_false_iff_ne.mpr (by omega)
          refine ⟨fp, zs, i, v, rfl, rfl, .inl (.inl (t17 _ _ hfpS)), atI_nat hv, by show 2 ≤ sizeLine; decide, fun tt htt => ?_⟩
          have st := same_new (o := .tup [V.int (leaves b : Int), v]) htt
          refine ⟨y, .ref tt, rfl, ?_, fun H18 s18 => ⟨true, rfl, iteF ?_⟩⟩
          · obtain ⟨yy, rfl, hyy⟩ := hy
            obtain ⟨FB, eFB⟩ := tnd b hbT
            refine .inr ⟨yy, tt, _, _, rfl, rfl, .inl ⟨same_sqT st hyy, .inl (.inl upd_same)⟩, by show 2 ≤ 2000; decide, rfl, fun k u1 u2 hu1 hu2 => ?_⟩
            match k, hu1, hu2 with
            | 0, hu1, hu2 =>
              cases hu1
              cases hu2
              exact .inl ⟨_, rfl, rfl⟩
            | 1, hu1, hu2 =>
              cases hu1
              cases hu2
              rw [eFB] at hx hvt
              exact al_web 0 (hx.ts (.of st)) (hvt.ts (.of st)) (by omega)
            | k + 2, hu1, hu2 => cases hu1
          have t18 := t17.trans (st.trans s18)
          have hys18 := (st.trans s18) _ _ hys17
          clear hM hbT hv hvt isM hm hmax hm2 hmax2 hx hy st
          -- fewest_leaves
          refine ⟨_, rfl, w6, n, c0, rfl, ask t18, fun H19 y x b i s19 hy hx hM => ?_⟩
          rw [hTT] at hM
          have t19 := t18.trans s19
          have hys19 := s19 _ _ hys18
          have hbT := List.mem_of_getElem? hM.at_
          obtain ⟨v, hv, hvt⟩ := paired_at (pzX t19) hM.at_
          have isM : ∀ {m : Int}, m ∈ nts (T.map leaves) → (∀ y, y ∈ nts (T.map leaves) → m ≤ y) → m = (leaves b : Int) := fun {m} h1 h2 => by
            obtain ⟨b', hb', e⟩ := mem_m h1
            have := h2 _ (mem_l hbT)
            have := hM.le b' hb'
            omega
          refine ⟨_, rfl, D, nts (T.map leaves), rfl, by rw [← eysI]; exact .inl (.inl hys19), hnl, fun m hm hmax => ?_⟩
          cases isM hm hmax
          refine ⟨_, rfl, _, rfl, .inl ⟨rfl, _, .inl (.inl hys19)⟩, _, rfl, D, nts (T.map leaves), rfl, by rw [← eysI]; exact .inl (.inl hys19), hnl, fun m2 hm2 hmax2 => ?_⟩
          cases isM hm2 hmax2
          refine ⟨D, ys16, _, i, _, rfl, rfl, .inl (.inl hys19), rfl, hflat, gat hM.at_, (beq_self_eq_true (leaves b : Int) : _), fun j z hj hz => ?_, ?_⟩
          · obtain ⟨b', hb', rfl⟩ := gat' hz
            have := hM.first j b' hj hb'
            exact beq_eq_false_iff_ne.mpr (by omega)
          refine ⟨fp, zs, i, v, rfl, rfl, .inl (.inl (t19 _ _ hfpS)), atI_nat hv, by show 2 ≤ sizeLine; decide, fun tt htt => ?_⟩
          have st := same_new (o := .tup [V.int (leaves b : Int), v]) htt
          refine ⟨y, .ref tt, rfl, ?_, fun H20 s20 => ⟨true, rfl, iteF ?_⟩⟩
          · obtain ⟨yy, rfl, hyy⟩ := hy
            obtain ⟨FB, eFB⟩ := tnd b hbT
            refine .inr ⟨yy, tt, _, _, rfl, rfl, .inl ⟨same_sqT st hyy, .inl (.inl upd_same)⟩, by show 2 ≤ 2000; decide, rfl, fun k u1 u2 hu1 hu2 => ?_⟩
            match k, hu1, hu2 with
            | 0, hu1, hu2 =>
              cases hu1
              cases hu2
              exact .inl ⟨_, rfl, rfl⟩
            | 1, hu1, hu2 =>
              cases hu1
              cases hu2
              rw [eFB] at hx hvt
              exact al_web 0 (hx.ts (.of st)) (hvt.ts (.of st)) (by omega)
            | k + 2, hu1, hu2 => cases hu1
          have t20 := t19.trans (st.trans s20)
          clear hM hbT hv hvt isM hm hmax hm2 hmax2 hx hy st
          -- common_pairs
          refine ⟨_, rfl, w6, n, c0, rfl, ask t20, fun H21 ct cp s21 hct pct => ?_⟩
          rw [hTT, ← hcs] at pct
          have t21 := t20.trans s21
          have hcl21 := t21 _ _ hclS
          have pcl21 : Paired (TP K H21) cxs cs := Paired.mapP pclS fun _ _ z => z.ts (.of t21)
          refine ⟨_, rfl, cl, rfl, ⟨_, .inl (.inl hcl21)⟩, fun D2 hD2 => lcm_list (K := K) (fun k H y => ∃ e, cs[k]? = some e ∧ TP K H y e) (fun k => T.all fun t => decide ((cs.getD k (0, 0)).2 ∈ t.getD (cs.getD k (0, 0)).1 [])) (fun _ _ _ _ t ⟨e, h1, h2⟩ => ⟨e, h1, h2.ts t⟩) hD2 (.inl (.inl hcl21)) (Nat.le_of_lt (small1000 (by omega))) (fun k x hx H22 s22 Qf Qt qf qt => ?_) fun H22 ys22 s22 hys22 pys22 => ?_⟩
          · obtain ⟨⟨e1, e2⟩, he, t, rfl, ht⟩ := L2.paired_get pcl21 hx
            have hev := okc _ (List.mem_of_getElem? he)
            have he1 : e1 < n := Nat.lt_trans hev.1 hev.2
            have kf : (fun k => T.all fun t => decide ((cs.getD k (0, 0)).2 ∈ t.getD (cs.getD k (0, 0)).1 [])) k = T.all fun t => decide (e2 ∈ t.getD e1 []) := by
              show (T.all fun t => decide ((cs.getD k (0, 0)).2 ∈ t.getD (cs.getD k (0, 0)).1 [])) = _
              rw [List.getD_eq_getElem?_getD, he]; rfl
            have t22 := t21.trans s22
            refine ⟨_, rfl, fp, rfl, ⟨_, .inl (.inl (t22 _ _ hfpS))⟩, fun D3 hD3 => lcm_list (K := K) (fun i H y => ∃ t, T[i]? = some t ∧ TW K H y t) (fun i => !decide (e2 ∈ (T.getD i []).getD e1 [])) (fun _ _ _ _ t ⟨e, h1, h2⟩ => ⟨e, h1, h2.ts t⟩) hD3 (.inl (.inl (t22 _ _ hfpS))) (Nat.le_of_lt (lt1024 hzl2)) (fun i y hy H23 s23 Qf2 Qt2 qf2 qt2 => ?_) fun H23 ys23 s23 hys23 pys23 => ?_⟩
            · obtain ⟨tr, htr, hyt⟩ := L2.paired_get (pzX (t22.trans s23)) hy
              obtain ⟨F, eF⟩ := tnd tr (List.mem_of_getElem? htr)
              have kf2 : (fun i => !decide (e2 ∈ (T.getD i []).getD e1 [])) i = !decide (e2 ∈ rowOf n F e1) := by
                show (!decide (e2 ∈ (T.getD i []).getD e1 [])) = _
                rw [show T.getD i [] = tr by rw [List.getD_eq_getElem?_getD, htr]; rfl, eF, webOf_getD F he1]
              have ht23 := same_sqT (s22.trans s23) ht
              obtain ⟨b, ws, rfl, hb, hbp⟩ := id hyt
              rw [eF] at hbp
              obtain ⟨z, hz, l, rfl, hl⟩ := paired_at hbp (webOf_get F he1)
              refine ⟨_, rfl, t, _, 1, _, rfl, rfl, ht23, atI_nat (j := 1) rfl, _, rfl, _, rfl, t, _, 0, _, rfl, rfl, ht23, atI_nat (j := 0) rfl, b, _, e1, _, rfl, rfl, hb, atI_nat hz, l, _, rfl, .inr hl, rfl, flat_vi _, _, rfl, ?_⟩
              show if (!inV (vi e2) ((rowOf n F e1).map vi)) = true then _ else _
              rw [inV_vi]
              by_cases c : e2 ∈ rowOf n F e1
              · rw [decide_eq_true c]
                exact iteF (qf2 (kf2.trans (by rw [decide_eq_true c]; rfl)) _ (.refl _))
              · rw [decide_eq_false c]
                exact iteT ⟨_, rfl, qt2 (kf2.trans (by rw [decide_eq_false c]; rfl)) _ _ (.refl _) ⟨tr, htr, hyt⟩⟩
            · rw [hzl] at pys23
              have pys24 := paired_filter (f := fun t : Web => t) (p := fun t : Web => !decide (e2 ∈ t.getD e1 [])) (R := TW K H23) [] pys23
              rw [List.map_id'] at pys24
              refine ⟨Nat.zero_le _, fun e4 he4 => ?_⟩
              have se := same_new (o := .lst []) he4
              have shp : ∀ l : List Web, SeqAt.shaped (.list (l.map dW)) = true := shaped_list (k := 2) lay_dW depth_dW (by decide)
              refine ⟨.list ((T.filter fun t : Web => !decide (e2 ∈ t.getD e1 [])).map dW), .list (([] : List Web).map dW), .lst (.inl (.inl (se _ _ hys23))) (dpAll_of (fun _ _ z => TW.dp (z.ts (.of se))) pys24), .lst (.inl (.inl upd_same)) .nil, shp _, shp _, _, rfl, ?_⟩
              have ev : PyData.eqv (.list ((T.filter fun t : Web => !decide (e2 ∈ t.getD e1 [])).map dW)) (.list (([] : List Web).map dW)) = T.all fun t => decide (e2 ∈ t.getD e1 []) := by
                simp only [PyData.eqv]
                rw [eqvAll_of eqv_dW, Bool.eq_iff_iff, decide_eq_true_eq, List.filter_eq_nil_iff, List.all_eq_true]
                exact ⟨fun h t ht => by have := h t ht; simpa using this, fun h t ht => by have := h t ht; simpa using this⟩
              rw [ev]
              cases c : T.all fun t => decide (e2 ∈ t.getD e1 []) with
              | true => exact iteT ⟨_, rfl, qt (kf.trans c) _ _ (s23.trans se) ⟨_, he, t, rfl, same_sqT ((s22.trans s23).trans se) ht⟩⟩
              | false => exact iteF (qf (kf.trans c) _ (s23.trans se))
          · rw [hcxl] at pys22
            have pys24 := paired_filter (f := fun e : Edge => e) (p := fun e : Edge => T.all fun t => decide (e.2 ∈ t.getD e.1 [])) (R := TP K H22) (0, 0) pys22
            rw [List.map_id'] at pys24
            refine ⟨D2, ys22, rfl, .inl ⟨.inl (.inl hys22), fun tz htz => ?_⟩⟩
            have sz := s22.trans (same_new (o := .tup ys22) htz)
            refine ⟨.ref ct, .ref tz, rfl, .inr ⟨ct, tz, cp, ys22, rfl, rfl, .inl ⟨same_sqT sz hct, .inl (.inl upd_same)⟩, ?_, ?_, ?_⟩, fun H24 _ => q H24⟩
            · rw [Paired.length pct]
              have := List.length_filter_le (fun p : Edge => T.all fun t => decide (p.2 ∈ t.getD p.1 [])) cs
              unfold commonOf
              omega
            · rw [Paired.length pct, Paired.length pys24]; rfl
            · exact al_of (Paired.mapP pct fun _ _ z => z.ts (.of sz)) (Paired.mapP pys24 fun _ _ z => z.ts (.new htz)) fun e _ x y h1 h2 => al_pair 1 h1 h2
end
end Tr

/-! The end: what the top has written; the law's own head. -/
namespace Tr
open PySem PySem.Spec PyProof.Rows L2
/-- a def of the top under its name -/
structure DefAt (K : PySem.W.Frag) (x : Str) (st : Stmt) : Prop where
  ex : ∃ (f : Addr) (oc : Value) (od an : Option Addr) (osl : Array (Option Value)) (kV doc pm cdv ct : Value), PySem.W.nsIn K mainGlobals x = some (some (.ref f)) ∧
    K.lookup f = some ⟨oc, od, .func (PySem.W.fnOf x x (defArgs st) (defBody st) (defScope st) .none kV doc pm an cdv ct), osl⟩ ∧ PySem.W.codeIn K cdv x = true ∧ PySem.W.keepIn K (.ref f) = true
theorem DefAt.got {K : PySem.W.Frag} {x : Str} {st : Stmt} {h : Heap} {mg : Str → Option Value} (d : DefAt K x st) (X : K.In h) (G : h.Ns mainGlobals mg) : ∃ f fd, Fun K x x st f fd ∧ mg x = some (.ref f) ∧ PySem.W.keepIn K (.ref f) = true := by
  obtain ⟨f, oc, od, an, osl, kV, doc, pm, cdv, ct, a, l, c, k⟩ := d.ex
  exact ⟨f, _, fun_mk (st := st) l c k, PySem.W.mg_of X G a, k⟩
theorem at_mk {K : PySem.W.Frag} {x : Str} {st : Stmt} {f : Addr} {oc : Value} {od an : Option Addr} {osl : Array (Option Value)} {kV doc pm cdv ct : Value} (a : PySem.W.nsIn K mainGlobals x = some (some (.ref f)))
    (l : K.lookup f = some ⟨oc, od, .func (PySem.W.fnOf x x (defArgs st) (defBody st) (defScope st) .none kV doc pm an cdv ct), osl⟩) (c : PySem.W.codeIn K cdv x = true) (k : PySem.W.keepIn K (.ref f) = true) : DefAt K x st :=
  ⟨f, oc, od, an, osl, kV, doc, pm, cdv, ct, a, l, c, k⟩
theorem num_mk {K : PySem.W.Frag} {x : Str} {i : Int} {t : Tok} (h : PySem.W.nsIn K mainGlobals x = some (some (.int i t))) : ∃ t, PySem.W.nsIn K mainGlobals x = some (some (.int i t)) := ⟨t, h⟩
/-- the names of the top that the text reads -/
structure Tops (K : PySem.W.Frag) : Prop where
  z_len : PySem.W.nsIn K mainGlobals "len" = some none
  z_range : PySem.W.nsIn K mainGlobals "range" = some none
  z_isinstance : PySem.W.nsIn K mainGlobals "isinstance" = some none
  z_int : PySem.W.nsIn K mainGlobals "int" = some none
  z_bool : PySem.W.nsIn K mainGlobals "bool" = some none
  z_tuple : PySem.W.nsIn K mainGlobals "tuple" = some none
  z_list : PySem.W.nsIn K mainGlobals "list" = some none
  z_str : PySem.W.nsIn K mainGlobals "str" = some none
  z_enumerate : PySem.W.nsIn K mainGlobals "enumerate" = some none
  z_all : PySem.W.nsIn K mainGlobals "all" = some none
  z_any : PySem.W.nsIn K mainGlobals "any" = some none
  z_sorted : PySem.W.nsIn K mainGlobals "sorted" = some none
  z_set : PySem.W.nsIn K mainGlobals "set" = some none
  z_max : PySem.W.nsIn K mainGlobals "max" = some none
  z_min : PySem.W.nsIn K mainGlobals "min" = some none
  m_p : ∃ t, PySem.W.nsIn K mainGlobals "MOST_PEOPLE" = some (some (.int 8 t))
  m_t : ∃ t, PySem.W.nsIn K mainGlobals "MOST_TREES" = some (some (.int 6 t))
  d5 : DefAt K "is_integer" sIsInteger
  d6 : DefAt K "is_in" sIsIn
  d7 : DefAt K "is_list" sIsList
  d10 : DefAt K "need_web" sNeedWeb
  d11 : DefAt K "pairs_in" sPairsIn
  d12 : DefAt K "web_by" sWebBy
  d13 : DefAt K "group_in" sGroupIn
  d14 : DefAt K "groups_in" sGroupsIn
  d17 : DefAt K "need_group" sNeedGroup
  d18 : DefAt K "trees_in" sTreesIn
  d19 : DefAt K "trees" sTrees
  d20 : DefAt K "count_trees_in" sCountTrees
  d21 : DefAt K "most_leaves" sMost
  d22 : DefAt K "fewest_leaves" sFew
  d23 : DefAt K "common_pairs" sCommon
  d25 : DefAt K "_law_taken" sTaken
  d26 : DefAt K "_law_pick" sPick
  d27 : DefAt K "_law_alike" sAlike
  d28 : DefAt K "_law_by" sLawBy
  d29 : DefAt K "_law_web" sLawWeb
  d30 : DefAt K "_law_couples" sCouples
  d31 : DefAt K "_law_sets" sSets
  d32 : DefAt K "_law_steps" sSteps
  d33 : DefAt K "_law_lots" sLots
  d34 : DefAt K "law" sLaw
theorem Tops.std {K : PySem.W.Frag} {h : Heap} {mg : Str → Option Value} (T : Tops K) (X : K.In h) (G : h.Ns mainGlobals mg) : Std mg where
  len := PySem.W.mg_none_of X G T.z_len
  rng := PySem.W.mg_none_of X G T.z_range
  isi := PySem.W.mg_none_of X G T.z_isinstance
  int := PySem.W.mg_none_of X G T.z_int
  bool := PySem.W.mg_none_of X G T.z_bool
  tup := PySem.W.mg_none_of X G T.z_tuple
  lst := PySem.W.mg_none_of X G T.z_list
  str := PySem.W.mg_none_of X G T.z_str
  enum := PySem.W.mg_none_of X G T.z_enumerate
  all := PySem.W.mg_none_of X G T.z_all
  any := PySem.W.mg_none_of X G T.z_any
  srt := PySem.W.mg_none_of X G T.z_sorted
  set := PySem.W.mg_none_of X G T.z_set
  max := PySem.W.mg_none_of X G T.z_max
  min := PySem.W.mg_none_of X G T.z_min
  mp := let ⟨t, e⟩ := T.m_p; ⟨t, PySem.W.mg_of X G e⟩
  mt := let ⟨t, e⟩ := T.m_t; ⟨t, PySem.W.mg_of X G e⟩
theorem all_mk {l : PySem.W.OpenLaw} {w : World} {K : PySem.W.Frag} {h : Heap} {mg : Str → Option Value} {fa : Addr} (X : K.In h) (G : h.Ns mainGlobals mg) (hfa : mg "law" = some (.ref fa)) (T : Tops K) :
    ∃ fd : FuncData, (∀ (s : Shared) (v : Value), BindsTo s fd ⟨[v], []⟩ [("_law_script", v)]) ∧ ∀ base : Heap, K.In base → base.Ns mainGlobals mg → FnOk l.prog w K mg base CX0 6 fa fd ["_law_script"] (spLaw K) := by
  have S := T.std X G
  obtain ⟨f5, fd5, F5, m5, k5⟩ := T.d5.got X G
  have b5 := F5.binds (ps := ["value"]) fun _ _ _ _ _ _ us hl => match us, hl with | [_], _ => rfl
  obtain ⟨f6, fd6, F6, m6, k6⟩ := T.d6.got X G
  have b6 := F6.binds (ps := ["value", "least", "most"]) fun _ _ _ _ _ _ us hl => match us, hl with | [_, _, _], _ => rfl
  obtain ⟨f7, fd7, F7, m7, k7⟩ := T.d7.got X G
  have b7 := F7.binds (ps := ["value", "least", "most"]) fun _ _ _ _ _ _ us hl => match us, hl with | [_, _, _], _ => rfl
  obtain ⟨f10, fd10, F10, m10, k10⟩ := T.d10.got X G
  have b10 := F10.binds (ps := ["web"]) fun _ _ _ _ _ _ us hl => match us, hl with | [_], _ => rfl
  obtain ⟨f11, fd11, F11, m11, k11⟩ := T.d11.got X G
  have b11 := F11.binds (ps := ["web"]) fun _ _ _ _ _ _ us hl => match us, hl with | [_], _ => rfl
  obtain ⟨f12, fd12, F12, m12, k12⟩ := T.d12.got X G
  have b12 := F12.binds (ps := ["people", "some"]) fun _ _ _ _ _ _ us hl => match us, hl with | [_, _], _ => rfl
  obtain ⟨f13, fd13, F13, m13, k13⟩ := T.d13.got X G
  have b13 := F13.binds (ps := ["web", "person"]) fun _ _ _ _ _ _ us hl => match us, hl with | [_, _], _ => rfl
  obtain ⟨f14, fd14, F14, m14, k14⟩ := T.d14.got X G
  have b14 := F14.binds (ps := ["web"]) fun _ _ _ _ _ _ us hl => match us, hl with | [_], _ => rfl
  obtain ⟨f17, fd17, F17, m17, k17⟩ := T.d17.got X G
  have b17 := F17.binds (ps := ["web"]) fun _ _ _ _ _ _ us hl => match us, hl with | [_], _ => rfl
  obtain ⟨f18, fd18, F18, m18, k18⟩ := T.d18.got X G
  have b18 := F18.binds (ps := ["web"]) fun _ _ _ _ _ _ us hl => match us, hl with | [_], _ => rfl
  obtain ⟨f19, fd19, F19, m19, k19⟩ := T.d19.got X G
  have b19 := F19.binds (ps := ["web"]) fun _ _ _ _ _ _ us hl => match us, hl with | [_], _ => rfl
  obtain ⟨f20, fd20, F20, m20, k20⟩ := T.d20.got X G
  have b20 := F20.binds (ps := ["web"]) fun _ _ _ _ _ _ us hl => match us, hl with | [_], _ => rfl
  obtain ⟨f21, fd21, F21, m21, k21⟩ := T.d21.got X G
  have b21 := F21.binds (ps := ["web"]) fun _ _ _ _ _ _ us hl => match us, hl with | [_], _ => rfl
  obtain ⟨f22, fd22, F22, m22, k22⟩ := T.d22.got X G
  have b22 := F22.binds (ps := ["web"]) fun _ _ _ _ _ _ us hl => match us, hl with | [_], _ => rfl
  obtain ⟨f23, fd23, F23, m23, k23⟩ := T.d23.got X G
  have b23 := F23.binds (ps := ["web"]) fun _ _ _ _ _ _ us hl => match us, hl with | [_], _ => rfl
  obtain ⟨f25, fd25, F25, m25, k25⟩ := T.d25.got X G
  have b25 := F25.binds (ps := ["_law_row", "_law_many"]) fun _ _ _ _ _ _ us hl => match us, hl with | [_, _], _ => rfl
  obtain ⟨f26, fd26, F26, m26, k26⟩ := T.d26.got X G
  have b26 := F26.binds (ps := ["_law_row", "_law_kinds"]) fun _ _ _ _ _ _ us hl => match us, hl with | [_, _], _ => rfl
  obtain ⟨f27, fd27, F27, m27, k27⟩ := T.d27.got X G
  have b27 := F27.binds (ps := ["_law_found", "_law_due"]) fun _ _ _ _ _ _ us hl => match us, hl with | [_, _], _ => rfl
  obtain ⟨f28, fd28, F28, m28, k28⟩ := T.d28.got X G
  have b28 := F28.binds (ps := ["_law_many", "_law_couples_here"]) fun _ _ _ _ _ _ us hl => match us, hl with | [_, _], _ => rfl
  obtain ⟨f29, fd29, F29, m29, k29⟩ := T.d29.got X G
  have b29 := F29.binds (ps := ["_law_row", "_law_most"]) fun _ _ _ _ _ _ us hl => match us, hl with | [_, _], _ => rfl
  obtain ⟨f30, fd30, F30, m30, k30⟩ := T.d30.got X G
  have b30 := F30.binds (ps := ["_law_web_here"]) fun _ _ _ _ _ _ us hl => match us, hl with | [_], _ => rfl
  obtain ⟨f31, fd31, F31, m31, k31⟩ := T.d31.got X G
  have b31 := F31.binds (ps := ["_law_many"]) fun _ _ _ _ _ _ us hl => match us, hl with | [_], _ => rfl
  obtain ⟨f32, fd32, F32, m32, k32⟩ := T.d32.got X G
  have b32 := F32.binds (ps := ["_law_web_here", "_law_person"]) fun _ _ _ _ _ _ us hl => match us, hl with | [_, _], _ => rfl
  obtain ⟨f33, fd33, F33, m33, k33⟩ := T.d33.got X G
  have b33 := F33.binds (ps := ["_law_web_here"]) fun _ _ _ _ _ _ us hl => match us, hl with | [_], _ => rfl
  obtain ⟨f, oc, od, an, osl, kV, doc, pm, cdv, ct, a34, l34, c34, k34⟩ := T.d34.ex
  have e := hfa.symm.trans (PySem.W.mg_of X G a34)
  cases e
  refine ⟨PySem.W.fnOf "law" "law" (defArgs sLaw) (defBody sLaw) (defScope sLaw) .none kV doc pm an cdv ct, fun s v => .of_eq rfl, fun base _ _ => ?_⟩
  have H5 : Has l.prog w K mg base 1 "is_integer" ["value"] spIsInteger := ⟨f5, fd5, ok_is_integer F5 S, m5, k5, b5⟩
  have H6 : Has l.prog w K mg base 2 "is_in" ["value", "least", "most"] spIsIn := ⟨f6, fd6, ok_is_in F6 S H5, m6, k6, b6⟩
  have H7 : Has l.prog w K mg base 1 "is_list" ["value", "least", "most"] (spIsList K) := ⟨f7, fd7, ok_is_list F7 S, m7, k7, b7⟩
  have H10 : Has l.prog w K mg base 3 "need_web" ["web"] (spNeedWeb K) := ⟨f10, fd10, ok_need_web F10 S H7 H6, m10, k10, b10⟩
  have H11 : Has l.prog w K mg base 1 "pairs_in" ["web"] (spPairsIn K) := ⟨f11, fd11, ok_pairs_in F11 S, m11, k11, b11⟩
  have H12 : Has l.prog w K mg base 1 "web_by" ["people", "some"] (spWebBy K) := ⟨f12, fd12, ok_web_by F12 S, m12, k12, b12⟩
  have H13 : Has l.prog w K mg base 1 "group_in" ["web", "person"] (spGroupIn K) := ⟨f13, fd13, ok_group_in F13 S, m13, k13, b13⟩
  have H14 : Has l.prog w K mg base 2 "groups_in" ["web"] (spGroupsIn K) := ⟨f14, fd14, ok_groups_in F14 S H13, m14, k14, b14⟩
  have H17 : Has l.prog w K mg base 4 "need_group" ["web"] (spNeedGroup K) := ⟨f17, fd17, ok_need_group F17 S H10 H14, m17, k17, b17⟩
  have H18 : Has l.prog w K mg base 2 "trees_in" ["web"] (spTreesIn K) := ⟨f18, fd18, ok_trees_in F18 S H11 H12, m18, k18, b18⟩
  have H19 : Has l.prog w K mg base 5 "trees" ["web"] (spTrees K) := ⟨f19, fd19, ok_trees F19 H17 H18, m19, k19, b19⟩
  have H20 : Has l.prog w K mg base 5 "count_trees_in" ["web"] (spCountTrees K) := ⟨f20, fd20, ok_count F20 S H17 H18, m20, k20, b20⟩
  have H21 : Has l.prog w K mg base 5 "most_leaves" ["web"] (spMost K) := ⟨f21, fd21, ok_most F21 S H17 H18, m21, k21, b21⟩
  have H22 : Has l.prog w K mg base 5 "fewest_leaves" ["web"] (spFew K) := ⟨f22, fd22, ok_few F22 S H17 H18, m22, k22, b22⟩
  have H23 : Has l.prog w K mg base 5 "common_pairs" ["web"] (spCommon K) := ⟨f23, fd23, ok_common F23 S H17 H18 H11, m23, k23, b23⟩
  have H25 : Has l.prog w K mg base 1 "_law_taken" ["_law_row", "_law_many"] (spTaken K) := ⟨f25, fd25, ok_taken F25 S, m25, k25, b25⟩
  have H26 : Has l.prog w K mg base 2 "_law_pick" ["_law_row", "_law_kinds"] (spPick K) := ⟨f26, fd26, ok_pick F26 S H25, m26, k26, b26⟩
  have A0 : Has l.prog w K mg base 1 "_law_alike" ["_law_found", "_law_due"] (spAlike K 0) := ⟨f27, fd27, ok_alike0 F27 S, m27, k27, b27⟩
  have A1 : Has l.prog w K mg base 2 "_law_alike" ["_law_found", "_law_due"] (spAlike K 1) := ⟨f27, fd27, ok_alikeS (d := 0) F27 S A0, m27, k27, b27⟩
  have A2 : Has l.prog w K mg base 3 "_law_alike" ["_law_found", "_law_due"] (spAlike K 2) := ⟨f27, fd27, ok_alikeS (d := 1) F27 S A1, m27, k27, b27⟩
  have A3 : Has l.prog w K mg base 4 "_law_alike" ["_law_found", "_law_due"] (spAlike K 3) := ⟨f27, fd27, ok_alikeS (d := 2) F27 S A2, m27, k27, b27⟩
  have H28 : Has l.prog w K mg base 1 "_law_by" ["_law_many", "_law_couples_here"] (spLawBy K) := ⟨f28, fd28, ok_law_by F28 S, m28, k28, b28⟩
  have H29 : Has l.prog w K mg base 2 "_law_web" ["_law_row", "_law_most"] (spLawWeb K) := ⟨f29, fd29, ok_law_web F29 S H25 H28, m29, k29, b29⟩
  have H30 : Has l.prog w K mg base 1 "_law_couples" ["_law_web_here"] (spPairsIn K) := ⟨f30, fd30, ok_couples F30 S, m30, k30, b30⟩
  have H31 : Has l.prog w K mg base 1 "_law_sets" ["_law_many"] (spSets K) := ⟨f31, fd31, ok_sets F31 S, m31, k31, b31⟩
  have H32 : Has l.prog w K mg base 1 "_law_steps" ["_law_web_here", "_law_person"] (spSteps K) := ⟨f32, fd32, ok_steps F32 S, m32, k32, b32⟩
  have H33 : Has l.prog w K mg base 2 "_law_lots" ["_law_web_here"] (spLotsK K) := ⟨f33, fd33, ok_lots F33 S H32, m33, k33, b33⟩
  exact ok_law (fun_mk (st := sLaw) l34 c34 k34) S ⟨H29, H26, H33, H28, H30, H31, A3, H19, H20, H21, H22, H23⟩
end Tr

open PySem PySem.W PyProof.Rows in
set_option maxHeartbeats 0 in
theorem PySem.Challenge.cw_introducers_k29_whole_trees_holds : PySem.Challenge.rw_introducers_k29_whole_trees.Holds := by
  w_on; o_law; k_head; (case hw => w_witness2)
  k_fill
  refine L2.walk_ofB (l := PySem.Challenge.rw_introducers_k29_whole_trees) (n := 63) (k := 6) (x := "_law_script") (CX := fun _ => L2.CX0) (sp := fun w => Tr.spLaw _) rfl (by decide) rfl ⟨rfl, by decide, by decide⟩ (fun w h Y => PySem.W.kIn_of Y) ?F (fun _ _ a ns _ _ _ hS => ⟨a, ns, rfl, hS, fun _ => rfl⟩) (fun _ _ _ _ _ h => h)
  case F =>
    intro w mg fa h KX G hmg
    refine' Tr.all_mk KX G hmg ?T
    refine' ⟨?z0, ?z1, ?z2, ?z3, ?z4, ?z5, ?z6, ?z7, ?z8, ?z9, ?z10, ?z11, ?z12, ?z13, ?z14, Tr.num_mk ?mp, Tr.num_mk ?mt, Tr.at_mk ?a5 ?l5 ?c5 ?k5, Tr.at_mk ?a6 ?l6 ?c6 ?k6, Tr.at_mk ?a7 ?l7 ?c7 ?k7, Tr.at_mk ?a10 ?l10 ?c10 ?k10, Tr.at_mk ?a11 ?l11 ?c11 ?k11, Tr.at_mk ?a12 ?l12 ?c12 ?k12, Tr.at_mk ?a13 ?l13 ?c13 ?k13, Tr.at_mk ?a14 ?l14 ?c14 ?k14, Tr.at_mk ?a17 ?l17 ?c17 ?k17, Tr.at_mk ?a18 ?l18 ?c18 ?k18, Tr.at_mk ?a19 ?l19 ?c19 ?k19, Tr.at_mk ?a20 ?l20 ?c20 ?k20, Tr.at_mk ?a21 ?l21 ?c21 ?k21, Tr.at_mk ?a22 ?l22 ?c22 ?k22, Tr.at_mk ?a23 ?l23 ?c23 ?k23, Tr.at_mk ?a25 ?l25 ?c25 ?k25, Tr.at_mk ?a26 ?l26 ?c26 ?k26, Tr.at_mk ?a27 ?l27 ?c27 ?k27, Tr.at_mk ?a28 ?l28 ?c28 ?k28, Tr.at_mk ?a29 ?l29 ?c29 ?k29, Tr.at_mk ?a30 ?l30 ?c30 ?k30, Tr.at_mk ?a31 ?l31 ?c31 ?k31, Tr.at_mk ?a32 ?l32 ?c32 ?k32, Tr.at_mk ?a33 ?l33 ?c33 ?k33, Tr.at_mk ?a34 ?l34 ?c34 ?k34⟩
    (case z0 => k_is)
    (case z1 => k_is)
    (case z2 => k_is)
    (case z3 => k_is)
    (case z4 => k_is)
    (case z5 => k_is)
    (case z6 => k_is)
    (case z7 => k_is)
    (case z8 => k_is)
    (case z9 => k_is)
    (case z10 => k_is)
    (case z11 => k_is)
    (case z12 => k_is)
    (case z13 => k_is)
    (case z14 => k_is)
    (case mp => k_is); (case mt => k_is)
    (case a5 => k_is); (case l5 => k_is); (case c5 => k_is); (case k5 => k_is)
    (case a6 => k_is); (case l6 => k_is); (case c6 => k_is); (case k6 => k_is)
    (case a7 => k_is); (case l7 => k_is); (case c7 => k_is); (case k7 => k_is)
    (case a10 => k_is); (case l10 => k_is); (case c10 => k_is); (case k10 => k_is)
    (case a11 => k_is); (case l11 => k_is); (case c11 => k_is); (case k11 => k_is)
    (case a12 => k_is); (case l12 => k_is); (case c12 => k_is); (case k12 => k_is)
    (case a13 => k_is); (case l13 => k_is); (case c13 => k_is); (case k13 => k_is)
    (case a14 => k_is); (case l14 => k_is); (case c14 => k_is); (case k14 => k_is)
    (case a17 => k_is); (case l17 => k_is); (case c17 => k_is); (case k17 => k_is)
    (case a18 => k_is); (case l18 => k_is); (case c18 => k_is); (case k18 => k_is)
    (case a19 => k_is); (case l19 => k_is); (case c19 => k_is); (case k19 => k_is)
    (case a20 => k_is); (case l20 => k_is); (case c20 => k_is); (case k20 => k_is)
    (case a21 => k_is); (case l21 => k_is); (case c21 => k_is); (case k21 => k_is)
    (case a22 => k_is); (case l22 => k_is); (case c22 => k_is); (case k22 => k_is)
    (case a23 => k_is); (case l23 => k_is); (case c23 => k_is); (case k23 => k_is)
    (case a25 => k_is); (case l25 => k_is); (case c25 => k_is); (case k25 => k_is)
    (case a26 => k_is); (case l26 => k_is); (case c26 => k_is); (case k26 => k_is)
    (case a27 => k_is); (case l27 => k_is); (case c27 => k_is); (case k27 => k_is)
    (case a28 => k_is); (case l28 => k_is); (case c28 => k_is); (case k28 => k_is)
    (case a29 => k_is); (case l29 => k_is); (case c29 => k_is); (case k29 => k_is)
    (case a30 => k_is); (case l30 => k_is); (case c30 => k_is); (case k30 => k_is)
    (case a31 => k_is); (case l31 => k_is); (case c31 => k_is); (case k31 => k_is)
    (case a32 => k_is); (case l32 => k_is); (case c32 => k_is); (case k32 => k_is)
    (case a33 => k_is); (case l33 => k_is); (case c33 => k_is); (case k33 => k_is)
    (case a34 => k_is); (case l34 => k_is); (case c34 => k_is); (case k34 => k_is)
#print axioms PySem.Challenge.cw_introducers_k29_whole_trees_holds

