import PyProof.Rows.All
import Wide.All
import OpenK.AllK
import Wide.FinOn
import HandS.ForMost
import HandS.ForExc
import HandS.Codes
import HandS.Defaults
import HandS.IsInst
import HandS.ExcIs
import HandS.Deep
import HandS.Conv
import HandS.TupLen
import HandS.DictTup
import HandS.Lambda
import KE.SortKeyHeap
import PySem.Challenge.RW_cellfolio_k30_whole_regions
import HandS.Keys
import HandS.TupLe
import HandS.DictComp
import KE.KDictDisplayH
import KE.SortData
import PyProof.StrOps2
import HandS.Steps
import HandS.Walk
import KE.IntBitsLaws
import HandS.HotCalls
import HandS.WordsExc
import KE.KStateDown
import HandS.EndTab
import HandS.Head0
import HandS.Head1
import HandS.Head2
import HandS.HeadHook1
import HandS.HeadHook2
import HandS.HeadHook3
import HandS.HeadHook4
import HandS.HeadWalk
set_option Elab.async false
set_option maxRecDepth 100000
set_option maxHeartbeats 1000000
/-! Plain mathematics of pictures, places, regions, borders. No program here. -/
namespace Cf
/-- a place (x, y) -/
abbrev Pl := Int × Int
abbrev Pic := List (List Int)
def wd (p : Pic) : Nat := (p.headD []).length
def hg (p : Pic) : Nat := p.length
/-- the cell at a place -/
def cl (p : Pic) (q : Pl) : Int := (p.getD q.2.toNat []).getD q.1.toNat 0
structure Good (p : Pic) : Prop where
  h1 : 1 ≤ hg p
  h2 : hg p ≤ 24
  w1 : 1 ≤ wd p
  w2 : wd p ≤ 24
  rows : ∀ r ∈ p, r.length = wd p
  cells : ∀ r ∈ p, ∀ c ∈ r, (0 : Int) ≤ c ∧ c ≤ 15
def ins (p : Pic) (q : Pl) : Prop := 0 ≤ q.1 ∧ q.1 < (wd p : Int) ∧ 0 ≤ q.2 ∧ q.2 < (hg p : Int)
instance (p : Pic) (q : Pl) : Decidable (ins p q) := by unfold ins; infer_instance
def near (q : Pl) : List Pl := [(q.1, q.2 - 1), (q.1 - 1, q.2), (q.1 + 1, q.2), (q.1, q.2 + 1)]
theorem mem_near {q r : Pl} : r ∈ near q ↔ r = (q.1, q.2 - 1) ∨ r = (q.1 - 1, q.2) ∨ r = (q.1 + 1, q.2) ∨ r = (q.1, q.2 + 1) := by
  unfold near; simp
theorem near_symm {q r : Pl} (h : r ∈ near q) : q ∈ near r := by
  obtain ⟨x, y⟩ := q
  obtain ⟨a, b⟩ := r
  rw [mem_near] at h ⊢
  simp only [Prod.mk.injEq] at h ⊢
  omega
/-- what is led to -/
inductive Reach (p : Pic) (a : Pl) : Pl → Prop
  | refl : Reach p a a
  | step {b c : Pl} : Reach p a b → c ∈ near b → ins p c → cl p c = cl p a → Reach p a c
theorem Reach.ins {p : Pic} {a b : Pl} (ha : ins p a) (h : Reach p a b) : Cf.ins p b := by
  cases h with
  | refl => exact ha
  | step _ _ hc _ => exact hc
theorem Reach.cell {p : Pic} {a b : Pl} (h : Reach p a b) : cl p b = cl p a := by
  cases h with
  | refl => rfl
  | step _ _ _ hc => exact hc
theorem Reach.trans {p : Pic} {a b c : Pl} (h : Reach p a b) (k : Reach p b c) : Reach p a c := by
  induction k with
  | refl => exact h
  | step _ hn hi hc ih => exact .step ih hn hi (hc.trans h.cell)
theorem Reach.symm {p : Pic} {a b : Pl} (ha : Cf.ins p a) (h : Reach p a b) : Reach p b a := by
  induction h with
  | refl => exact .refl
  | @step b c hb hn hi hc ih =>
    have h1 : Reach p c b := .step .refl (near_symm hn) (hb.ins ha) (by rw [hb.cell, hc])
    exact h1.trans ih
/-- row by row, in each from the left -/
def Bf (a b : Pl) : Prop := a.2 < b.2 ∨ (a.2 = b.2 ∧ a.1 < b.1)
instance (a b : Pl) : Decidable (Bf a b) := by unfold Bf; infer_instance
theorem Bf.trans {a b c : Pl} (h : Bf a b) (k : Bf b c) : Bf a c := by unfold Bf at *; omega
theorem Bf.irr {a : Pl} (h : Bf a a) : False := by unfold Bf at h; omega
theorem Bf.tri (a b : Pl) : Bf a b ∨ a = b ∨ Bf b a := by
  obtain ⟨x, y⟩ := a
  obtain ⟨u, v⟩ := b
  unfold Bf
  simp only [Prod.mk.injEq]
  omega
def row (w : Nat) (y : Nat) : List Pl := (List.range w).map fun x : Nat => ((x : Int), (y : Int))
def pls (w h : Nat) : List Pl := (List.range h).flatMap (row w)
theorem mem_pls {w h : Nat} {q : Pl} : q ∈ pls w h ↔ 0 ≤ q.1 ∧ q.1 < (w : Int) ∧ 0 ≤ q.2 ∧ q.2 < (h : Int) := by
  obtain ⟨x, y⟩ := q
  unfold pls row
  simp only [List.mem_flatMap, List.mem_range, List.mem_map, Prod.mk.injEq]
  constructor
  · rintro ⟨j, hj, i, hi, h1, h2⟩
    omega
  · rintro ⟨h1, h2, h3, h4⟩
    exact ⟨y.toNat, by omega, x.toNat, by omega, by omega, by omega⟩
theorem mem_pls_ins {p : Pic} {q : Pl} : q ∈ pls (wd p) (hg p) ↔ ins p q := mem_pls
theorem row_bf (w y : Nat) : (row w y).Pairwise Bf := by
  unfold row
  rw [List.pairwise_map]
  refine List.Pairwise.imp ?_ (List.pairwise_lt_range (n := w))
  intro a b h
  right
  exact ⟨rfl, by show (a : Int) < (b : Int); omega⟩
theorem pls_bf (w : Nat) : ∀ h : Nat, (pls w h).Pairwise Bf
  | 0 => List.Pairwise.nil
  | h + 1 => by
    have e : pls w (h + 1) = pls w h ++ row w h := by
      unfold pls
      rw [List.range_succ, List.flatMap_append]
      simp
    rw [e, List.pairwise_append]
    refine ⟨pls_bf w h, row_bf w h, ?_⟩
    intro a ha b hb
    have h1 := mem_pls.mp ha
    unfold row at hb
    obtain ⟨i, _, rfl⟩ := List.mem_map.mp hb
    left
    exact h1.2.2.2
theorem pls_nodup (w h : Nat) : (pls w h).Nodup := by
  unfold List.Nodup
  refine List.Pairwise.imp ?_ (pls_bf w h)
  intro a b h e
  rw [e] at h
  exact h.irr
theorem pls_len (w : Nat) : ∀ h : Nat, (pls w h).length = h * w
  | 0 => by simp [pls]
  | h + 1 => by
    have e : pls w (h + 1) = pls w h ++ row w h := by
      unfold pls
      rw [List.range_succ, List.flatMap_append]
      simp
    rw [e, List.length_append, pls_len w h, Nat.succ_mul]
    unfold row
    rw [List.length_map, List.length_range]
/-- two lists in order of one content are the same -/
theorem bf_ext : ∀ {l m : List Pl}, l.Pairwise Bf → m.Pairwise Bf → (∀ q, q ∈ l ↔ q ∈ m) → l = m
  | [], [], _, _, _ => rfl
  | [], b :: m, _, _, h => by
    have := (h b).mpr List.mem_cons_self
    cases this
  | a :: l, [], _, _, h => by
    have := (h a).mp List.mem_cons_self
    cases this
  | a :: l, b :: m, hl, hm, h => by
    rw [List.pairwise_cons] at hl hm
    have e : a = b := by
      rcases List.mem_cons.mp ((h a).mp List.mem_cons_self) with e | e
      · exact e
      · rcases List.mem_cons.mp ((h b).mpr List.mem_cons_self) with e2 | e2
        · exact e2.symm
        · exact ((hl.1 b e2).trans (hm.1 a e)).irr.elim
    subst e
    have e2 : l = m := bf_ext hl.2 hm.2 fun q => by
      constructor
      · intro hq
        rcases List.mem_cons.mp ((h q).mp (List.mem_cons_of_mem _ hq)) with e | e
        · subst e
          exact ((hl.1 q hq).irr).elim
        · exact e
      · intro hq
        rcases List.mem_cons.mp ((h q).mpr (List.mem_cons_of_mem _ hq)) with e | e
        · subst e
          exact ((hm.1 q hq).irr).elim
        · exact e
    rw [e2]
open Classical in
/-- the region of a place, in order -/
noncomputable def reg (p : Pic) (s : Pl) : List Pl := (pls (wd p) (hg p)).filter fun q => decide (Reach p s q)
theorem mem_reg {p : Pic} {s q : Pl} : q ∈ reg p s ↔ ins p q ∧ Reach p s q := by
  unfold reg
  rw [List.mem_filter, mem_pls_ins]
  simp
theorem reg_bf (p : Pic) (s : Pl) : (reg p s).Pairwise Bf := List.Pairwise.sublist List.filter_sublist (pls_bf _ _)
theorem reg_nodup (p : Pic) (s : Pl) : (reg p s).Nodup := List.Nodup.sublist List.filter_sublist (pls_nodup _ _)
theorem reg_self {p : Pic} {s : Pl} (h : ins p s) : s ∈ reg p s := mem_reg.mpr ⟨h, .refl⟩
theorem reg_len (p : Pic) (s : Pl) : (reg p s).length ≤ hg p * wd p := by
  have := List.length_filter_le (fun q => @decide (Reach p s q) (Classical.propDecidable _)) (pls (wd p) (hg p))
  rw [pls_len] at this
  exact this
theorem reg_eq {p : Pic} {s t : Pl} (hs : ins p s) (h : Reach p s t) : reg p t = reg p s := by
  refine bf_ext (reg_bf p t) (reg_bf p s) fun q => ?_
  rw [mem_reg, mem_reg]
  exact ⟨fun ⟨a, b⟩ => ⟨a, h.trans b⟩, fun ⟨a, b⟩ => ⟨a, (h.symm hs).trans b⟩⟩
theorem nodup_len : ∀ {l m : List Pl}, l.Nodup → (∀ q ∈ l, q ∈ m) → l.length ≤ m.length
  | [], _, _, _ => Nat.zero_le _
  | a :: l, m, h, hs => by
    have h2 := List.nodup_cons.mp h
    have hm : a ∈ m := hs a List.mem_cons_self
    have ih : l.length ≤ (m.erase a).length := nodup_len h2.2 fun q hq => by
      have hne : q ≠ a := fun e => h2.1 (by rw [← e]; exact hq)
      exact (List.mem_erase_of_ne hne).mpr (hs q (List.mem_cons_of_mem _ hq))
    have hp : 0 < m.length := List.length_pos_of_mem hm
    rw [List.length_erase_of_mem hm] at ih
    rw [List.length_cons]
    omega
/-- the flood: between two turns -/
structure Fl (p : Pic) (s : Pl) (seen wait : List Pl) : Prop where
  nd : seen.Nodup
  st : s ∈ seen
  rch : ∀ q ∈ seen, Reach p s q
  sub : ∀ q ∈ wait, q ∈ seen
  done : ∀ q ∈ seen, q ∉ wait → ∀ r ∈ near q, ins p r → cl p r = cl p s → r ∈ seen
/-- within a turn: j of the sides of here are looked at -/
structure FlI (p : Pic) (s here : Pl) (j : Nat) (seen wait : List Pl) : Prop where
  nd : seen.Nodup
  st : s ∈ seen
  rch : ∀ q ∈ seen, Reach p s q
  sub : ∀ q ∈ wait, q ∈ seen
  hm : here ∈ seen
  done : ∀ q ∈ seen, q ∉ wait → q ≠ here → ∀ r ∈ near q, ins p r → cl p r = cl p s → r ∈ seen
  part : ∀ r ∈ (near here).take j, ins p r → cl p r = cl p s → r ∈ seen
theorem Fl.start (p : Pic) (s : Pl) : Fl p s [s] [s] :=
  ⟨by simp, by simp, fun q h => by rw [List.mem_singleton.mp h]; exact .refl, fun _ h => h, fun _ h n => (n h).elim⟩
theorem Fl.pop {p : Pic} {s here : Pl} {seen wait : List Pl} (h : Fl p s seen (wait ++ [here])) : FlI p s here 0 seen wait :=
  ⟨h.nd, h.st, h.rch, fun q hq => h.sub q (List.mem_append_left _ hq), h.sub _ (by simp), fun q hq hn hne => h.done q hq (by simp [hn, hne]), by simp⟩
theorem FlI.skip {p : Pic} {s here r : Pl} {j : Nat} {seen wait : List Pl} (h : FlI p s here j seen wait) (hr : (near here)[j]? = some r) (hn : ins p r → cl p r = cl p s → r ∈ seen) : FlI p s here (j + 1) seen wait := by
  refine ⟨h.nd, h.st, h.rch, h.sub, h.hm, h.done, ?_⟩
  intro q hq
  rw [List.take_add_one, hr] at hq
  rcases List.mem_append.mp hq with e | e
  · exact h.part q e
  · have e' : q = r := by simpa using e
    subst e'
    exact hn
theorem FlI.add {p : Pic} {s here r : Pl} {j : Nat} {seen wait : List Pl} (h : FlI p s here j seen wait) (hr : (near here)[j]? = some r) (hi : ins p r) (hc : cl p r = cl p s) (hn : r ∉ seen) : FlI p s here (j + 1) (seen ++ [r]) (wait ++ [r]) := by
  refine ⟨?_, List.mem_append_left _ h.st, ?_, ?_, List.mem_append_left _ h.hm, ?_, ?_⟩
  · rw [List.nodup_append]
    exact ⟨h.nd, by simp, fun a ha b hb e => hn ((show b = r by simpa using hb) ▸ e ▸ ha)⟩
  · intro q hq
    rcases List.mem_append.mp hq with e | e
    · exact h.rch q e
    · have e' : q = r := by simpa using e
      subst e'
      exact .step (h.rch _ h.hm) (List.mem_of_getElem? hr) hi hc
  · intro q hq
    rcases List.mem_append.mp hq with e | e
    · exact List.mem_append_left _ (h.sub q e)
    · exact List.mem_append_right _ e
  · intro q hq hw hne x hx hxi hxc
    rcases List.mem_append.mp hq with e | e
    · exact List.mem_append_left _ (h.done q e (fun z => hw (List.mem_append_left _ z)) hne x hx hxi hxc)
    · exact (hw (List.mem_append_right _ e)).elim
  · intro q hq hqi hqc
    rw [List.take_add_one, hr] at hq
    rcases List.mem_append.mp hq with e | e
    · exact List.mem_append_left _ (h.part q e hqi hqc)
    · exact List.mem_append_right _ (by simpa using e)
theorem FlI.end {p : Pic} {s here : Pl} {seen wait : List Pl} (h : FlI p s here 4 seen wait) : Fl p s seen wait := by
  refine ⟨h.nd, h.st, h.rch, h.sub, ?_⟩
  intro q hq hw r hr hi hc
  by_cases e : q = here
  · subst e
    exact h.part r (by rw [List.take_of_length_le (by simp [near])]; exact hr) hi hc
  · exact h.done q hq hw e r hr hi hc
theorem Fl.all {p : Pic} {s : Pl} {seen : List Pl} (h : Fl p s seen []) {q : Pl} (r : Reach p s q) : q ∈ seen := by
  induction r with
  | refl => exact h.st
  | step _ hn hi hc ih => exact h.done _ ih (by simp) _ hn hi hc
theorem Fl.mem {p : Pic} {s : Pl} {seen : List Pl} (hs : ins p s) (h : Fl p s seen []) (q : Pl) : q ∈ seen ↔ q ∈ reg p s := by
  rw [mem_reg]
  exact ⟨fun hq => ⟨(h.rch q hq).ins hs, h.rch q hq⟩, fun hq => h.all hq.2⟩
theorem FlI.len {p : Pic} {s here : Pl} {j : Nat} {seen wait : List Pl} (hs : ins p s) (h : FlI p s here j seen wait) : seen.length ≤ hg p * wd p := by
  rw [← pls_len]
  exact nodup_len h.nd fun q hq => mem_pls_ins.mpr ((h.rch q hq).ins hs)
theorem Fl.len {p : Pic} {s : Pl} {seen wait : List Pl} (hs : ins p s) (h : Fl p s seen wait) : seen.length ≤ hg p * wd p := by
  rw [← pls_len]
  exact nodup_len h.nd fun q hq => mem_pls_ins.mpr ((h.rch q hq).ins hs)
theorem Good.area {p : Pic} (g : Good p) : hg p * wd p ≤ 576 := Nat.le_trans (Nat.mul_le_mul g.h2 g.w2) (by decide)

/-! ### all regions -/
/-- a place that is the first of its region -/
def lead (p : Pic) (s : Pl) : Prop := ∀ q, ins p q → Bf q s → ¬ Reach p q s
open Classical in
noncomputable def leads (p : Pic) (l : List Pl) : List Pl := l.filter fun s => decide (lead p s)
noncomputable def regs (p : Pic) : List (Int × List Pl) := (leads p (pls (wd p) (hg p))).map fun s => (cl p s, reg p s)
/-- what is seen behind the places of l -/
def Seen (p : Pic) (l : List Pl) (q : Pl) : Prop := ∃ s ∈ l, Reach p s q
theorem leads_snoc_yes {p : Pic} {l : List Pl} {s : Pl} (h : lead p s) : leads p (l ++ [s]) = leads p l ++ [s] := by
  unfold leads
  rw [List.filter_append]
  simp [h]
theorem leads_snoc_no {p : Pic} {l : List Pl} {s : Pl} (h : ¬ lead p s) : leads p (l ++ [s]) = leads p l := by
  unfold leads
  rw [List.filter_append]
  simp [h]
theorem take_snoc {α : Type} {l : List α} {i : Nat} {a : α} (h : l[i]? = some a) : l.take (i + 1) = l.take i ++ [a] := by
  rw [List.take_add_one, h]; rfl
theorem mem_take_bf {l : List Pl} (hl : l.Pairwise Bf) {i : Nat} {s q : Pl} (h : l[i]? = some s) (hq : q ∈ l) (hb : Bf q s) : q ∈ l.take i := by
  obtain ⟨j, hj, e⟩ := List.getElem_of_mem hq
  obtain ⟨hi, e2⟩ := List.getElem?_eq_some_iff.mp h
  rw [List.pairwise_iff_getElem] at hl
  have hji : j < i := by
    rcases Nat.lt_trichotomy j i with k | k | k
    · exact k
    · subst k
      rw [e] at e2
      rw [e2] at hb
      exact hb.irr.elim
    · have := hl i j hi hj k
      rw [e, e2] at this
      exact (this.trans hb).irr.elim
  rw [← e]
  exact List.mem_of_getElem? (i := j) (by rw [List.getElem?_take_of_lt hji]; exact List.getElem?_eq_getElem hj)
theorem bf_of_take {l : List Pl} (hl : l.Pairwise Bf) {i : Nat} {s q : Pl} (h : l[i]? = some s) (hq : q ∈ l.take i) : Bf q s := by
  obtain ⟨j, hj, e⟩ := List.getElem_of_mem hq
  obtain ⟨hi, e2⟩ := List.getElem?_eq_some_iff.mp h
  rw [List.length_take] at hj
  rw [List.getElem_take] at e
  rw [List.pairwise_iff_getElem] at hl
  have := hl j i (by omega) hi (by omega)
  rw [e, e2] at this
  exact this
/-- a place is first just where it isn't seen yet -/
theorem lead_iff {p : Pic} {i : Nat} {s : Pl} (h : (pls (wd p) (hg p))[i]? = some s) : lead p s ↔ ¬ Seen p ((pls (wd p) (hg p)).take i) s := by
  constructor
  · rintro hl ⟨q, hq, hr⟩
    exact hl q (mem_pls_ins.mp (List.mem_of_mem_take hq)) (bf_of_take (pls_bf _ _) h hq) hr
  · intro hn q hq hb hr
    exact hn ⟨q, mem_take_bf (pls_bf _ _) h (mem_pls_ins.mpr hq) hb, hr⟩
theorem seen_snoc {p : Pic} {l : List Pl} {s q : Pl} : Seen p (l ++ [s]) q ↔ Seen p l q ∨ Reach p s q := by
  unfold Seen
  constructor
  · rintro ⟨t, ht, hr⟩
    rcases List.mem_append.mp ht with e | e
    · exact .inl ⟨t, e, hr⟩
    · have : t = s := by simpa using e
      subst this
      exact .inr hr
  · rintro (⟨t, ht, hr⟩ | hr)
    · exact ⟨t, List.mem_append_left _ ht, hr⟩
    · exact ⟨s, List.mem_append_right _ (by simp), hr⟩
theorem seen_old {p : Pic} {l : List Pl} {s q : Pl} (h : Seen p l s) : Seen p (l ++ [s]) q ↔ Seen p l q := by
  rw [seen_snoc]
  constructor
  · rintro (a | a)
    · exact a
    · obtain ⟨t, ht, hr⟩ := h
      exact ⟨t, ht, hr.trans a⟩
  · exact .inl
theorem mem_leads {p : Pic} {l : List Pl} {s : Pl} : s ∈ leads p l ↔ s ∈ l ∧ lead p s := by
  unfold leads
  rw [List.mem_filter]
  simp
theorem leads_bf (p : Pic) : (leads p (pls (wd p) (hg p))).Pairwise Bf := List.Pairwise.sublist List.filter_sublist (pls_bf _ _)
/-- a first place stands at the head of its region -/
theorem reg_head {p : Pic} {s : Pl} (hs : ins p s) (hl : lead p s) : ∃ r, reg p s = s :: r := by
  have hm := reg_self hs
  have hb := reg_bf p s
  cases e : reg p s with
  | nil => rw [e] at hm; cases hm
  | cons a r =>
    rw [e] at hm hb
    have ha : a ∈ reg p s := by rw [e]; exact List.mem_cons_self
    rcases List.mem_cons.mp hm with z | z
    · exact ⟨r, by rw [z]⟩
    · have hab := (List.pairwise_cons.mp hb).1 s z
      obtain ⟨h1, h2⟩ := mem_reg.mp ha
      exact (hl a h1 hab (h2.symm hs)).elim
/-- each place has a first one that leads to it -/
theorem has_lead {p : Pic} {q : Pl} (hq : ins p q) : ∃ s, ins p s ∧ lead p s ∧ Reach p s q := by
  have hm := reg_self hq
  have hb := reg_bf p q
  cases e : reg p q with
  | nil => rw [e] at hm; cases hm
  | cons a r =>
    rw [e] at hb
    have ha : a ∈ reg p q := by rw [e]; exact List.mem_cons_self
    obtain ⟨h1, h2⟩ := mem_reg.mp ha
    refine ⟨a, h1, fun t ht htb hr => ?_, h2.symm hq⟩
    have ht2 : t ∈ reg p q := mem_reg.mpr ⟨ht, h2.trans (hr.symm ht)⟩
    rw [e] at ht2
    rcases List.mem_cons.mp ht2 with z | z
    · rw [z] at htb
      exact htb.irr
    · exact (((List.pairwise_cons.mp hb).1 t z).trans htb).irr
theorem lead_one {p : Pic} {s t q : Pl} (hs : ins p s) (ht : ins p t) (ls : lead p s) (lt : lead p t) (a : Reach p s q) (b : Reach p t q) : s = t := by
  have h1 : Reach p s t := a.trans (b.symm ht)
  rcases Bf.tri s t with k | k | k
  · exact (lt s hs k h1).elim
  · exact k
  · exact (ls t ht k (h1.symm hs)).elim
end Cf

set_option Elab.async false
set_option linter.all false
set_option maxRecDepth 100000
set_option maxHeartbeats 4000000
namespace Cf
open PySem PySem.Spec PyProof.Rows L2
/-! ### the text: the defs of the row's top -/
def top (i : Nat) : Stmt := PySem.Challenge.pw_cellfolio_k30_whole_regions.main.body.getD i (.Pass ⟨0, 0, 0, 0⟩)
abbrev s_is_among : Stmt := top 12
abbrev s_is_cell : Stmt := top 13
abbrev s_are_cells : Stmt := top 14
abbrev s_is_picture : Stmt := top 15
abbrev s_need_picture : Stmt := top 16
abbrev s_need_place : Stmt := top 17
abbrev s_in_order : Stmt := top 20
abbrev s_led_to : Stmt := top 21
abbrev s_regions_of : Stmt := top 22
abbrev s_region_at : Stmt := top 23
abbrev s_border_of : Stmt := top 24
abbrev s_l_cell : Stmt := top 26
abbrev s_l_mixed : Stmt := top 27
abbrev s_l_whole : Stmt := top 28
abbrev s_l_picture : Stmt := top 29
abbrev s_l_great : Stmt := top 30
abbrev s_l_class : Stmt := top 31
abbrev s_l_wrong_picture : Stmt := top 32
abbrev s_l_copied : Stmt := top 33
abbrev s_l_word : Stmt := top 34
abbrev s_l_beside : Stmt := top 35
abbrev s_l_hangs : Stmt := top 36
abbrev s_l_rises : Stmt := top 37
abbrev s_l_is_region : Stmt := top 38
abbrev s_l_owners : Stmt := top 39
abbrev s_l_parted : Stmt := top 40
abbrev s_l_borders_right : Stmt := top 41
abbrev s_l_refused : Stmt := top 42
abbrev s_law : Stmt := top 43
abbrev FnP (K : PySem.W.Frag) (x : Str) (st : Stmt) (f : Addr) (fd : FuncData) : Prop := FunD K x x (defArgs st) (defBody st) (defScope st) [] [] f fd
/-! ### what the top has left: built-in names, constants, classes -/
structure Tx (K : PySem.W.Frag) (mg : Str → Option Value) (CP CO CF : Addr) (S a0 a1 a2 a3 : Addr) : Prop where
  isinstance : mg "isinstance" = none
  int : mg "int" = none
  bool : mg "bool" = none
  list : mg "list" = none
  tuple : mg "tuple" = none
  all : mg "all" = none
  len : mg "len" = none
  sorted : mg "sorted" = none
  range : mg "range" = none
  enumerate : mg "enumerate" = none
  min : mg "min" = none
  ValueError : mg "ValueError" = none
  side : ∃ u, mg "MOST_SIDE" = some u ∧ RelV (.int 24) u
  cell : ∃ u, mg "MOST_CELL" = some u ∧ RelV (.int 15) u
  gSIDES : ∃ u, mg "SIDES" = some u ∧ RelV (.ref S) u
  sides : ∀ H, SqT K H S [.ref a0, .ref a1, .ref a2, .ref a3]
  s0 : ∀ H, SqT K H a0 [.int 0, .int (-1)]
  s1 : ∀ H, SqT K H a1 [.int (-1), .int 0]
  s2 : ∀ H, SqT K H a2 [.int 1, .int 0]
  s3 : ∀ H, SqT K H a3 [.int 0, .int 1]
  gBadPicture : mg "BadPicture" = some (.ref CP)
  gOutOfPlace : mg "OutOfPlace" = some (.ref CO)
  gFolioError : mg "FolioError" = some (.ref CF)
/-! ### a def that may be called -/
def Cal (P : Program) (w : World) (K : PySem.W.Frag) (mg : Str → Option Value) (base : Heap) (CX : CXT) (k : Nat) (x : Str) (ps : List Str) (sp : Sp) : Prop :=
  ∃ f fd, FnOk P w K mg base CX k f fd ps sp ∧ mg x = some (.ref f) ∧ PySem.W.keepIn K (.ref f) = true ∧ Binds K fd ps []
def Df (K : PySem.W.Frag) (mg : Str → Option Value) (x : Str) (st : Stmt) : Prop := ∃ f fd, FnP K x st f fd ∧ mg x = some (.ref f)
section
variable {X : Cx} {CX : CXT} {k j : Nat} {x : Str} {ps : List Str} {sp : Sp} {e : Expr} {es : List Expr} {t : TA} {p pos : Pos} {E : XK}
theorem pe_cal (c : Cal X.prog X.w X.K X.mg X.base CX0 k x ps sp) (hr : Room j X.A) (hk : k ≤ j) (hg : Gl X x) (ha : PA X (e :: es) t) (hdb : (x == ("__debug__" : Str)) = false := by decide)
    (he : starEach (e :: es) X.env = (false, eval e X.env) :: starEach es X.env := by rfl) (hpl : (backTo pos (starEach es X.env)).any (·.1) = false := by rfl) :
    PE X (.Call (.Name x p) (e :: es) [] pos) (tCall sp [] E0 t) := by
  obtain ⟨f, fd, F, hm, kp, b⟩ := c
  exact pe_call F (hr.mono hk) hg hm kp b .nil pass0 ha hdb he hpl
theorem pe_calX (c : Cal X.prog X.w X.K X.mg X.base (L2.CX X.prog X.w) k x ps sp) (hr : Room j X.A) (hk : k ≤ j) (hg : Gl X x) (hx : Passes (L2.CX X.prog X.w) X E) (ha : PA X (e :: es) t) (hdb : (x == ("__debug__" : Str)) = false := by decide)
    (he : starEach (e :: es) X.env = (false, eval e X.env) :: starEach es X.env := by rfl) (hpl : (backTo pos (starEach es X.env)).any (·.1) = false := by rfl) :
    PE X (.Call (.Name x p) (e :: es) [] pos) (tCall sp [] E t) := by
  obtain ⟨f, fd, F, hm, kp, b⟩ := c
  exact pe_call F (hr.mono hk) hg hm kp b .nil hx ha hdb he hpl
end
section
variable {P : Program} {w : World} {K : PySem.W.Frag} {mg : Str → Option Value} {base : Heap}
theorem cal_of {x : Str} {st : Stmt} {N ps : List Str} {k : Nat} {sp : Sp} (D : Df K mg x st) (Sc : FnScope N ps (defScope st))
    (hb : ∀ (kV doc pm : Value) (an : Option Addr) (cdv ct : Value) (us : List Value), us.length = ps.length → bindArgs (PySem.W.fnOf x x (defArgs st) (defBody st) (defScope st) .none kV doc pm an cdv ct) ⟨us, []⟩ = pure (ps.zip us))
    (len : ∀ vs H Q E, sp vs H Q E → vs.length = ps.length)
    (body : ∀ (f : Addr) (cdv : Value) (A : Around) (outer : List Env) (s : Shared) (H : Hp) (vs : List V) (Q : VK) (E : XK), Room k (A.deeper (envOfC x (defScope st) s.heap.objs.size f cdv)) → sp vs H Q E →
      ∃ t, PSs (cxOf CX0 P w K mg base N x (defScope st) f cdv A outer s H E).nox (defBody st) t ∧ t { nx := fun _ H' => Q .non H', rt := Q } (start N vs) H) :
    Cal P w K mg base CX0 (k + 1) x ps sp := by
  obtain ⟨f, fd, F, hm⟩ := D
  refine ⟨f, fd, F.ok Sc len fun cdv A outer s H vs Q E hr h => ?_, hm, F.kp, F.bindsN hb⟩
  obtain ⟨t, h1, h2⟩ := body f cdv A outer s H vs Q E hr h
  exact ⟨t, h1.nox, h2⟩
theorem calX_of {x : Str} {st : Stmt} {N ps : List Str} {k : Nat} {sp : Sp} (D : Df K mg x st) (Sc : FnScope N ps (defScope st))
    (hb : ∀ (kV doc pm : Value) (an : Option Addr) (cdv ct : Value) (us : List Value), us.length = ps.length → bindArgs (PySem.W.fnOf x x (defArgs st) (defBody st) (defScope st) .none kV doc pm an cdv ct) ⟨us, []⟩ = pure (ps.zip us))
    (len : ∀ vs H Q E, sp vs H Q E → vs.length = ps.length)
    (body : ∀ (f : Addr) (cdv : Value) (A : Around) (outer : List Env) (s : Shared) (H : Hp) (vs : List V) (Q : VK) (E : XK), Room k (A.deeper (envOfC x (defScope st) s.heap.objs.size f cdv)) → sp vs H Q E →
      ∃ t, PSs (cxOf (L2.CX P w) P w K mg base N x (defScope st) f cdv A outer s H E) (defBody st) t ∧ t { nx := fun _ H' => Q .non H', rt := Q } (start N vs) H) :
    Cal P w K mg base (L2.CX P w) (k + 1) x ps sp := by
  obtain ⟨f, fd, F, hm⟩ := D
  exact ⟨f, fd, F.ok Sc len fun cdv A outer s H vs Q E hr h => body f cdv A outer s H vs Q E hr h, hm, F.kp, F.bindsN hb⟩
end
/-! ### the layer's rules with the written part named (within a comprehension) -/
section
variable {X : Cx} {K : PySem.W.Frag}
theorem ixL (h : X.K = K) : IxR X (rIxL K) := h ▸ ix_list
theorem ixT (h : X.K = K) : IxR X (rIxT K) := h ▸ ix_tup
def rLenK (K : PySem.W.Frag) : List V → Hp → VK → Prop := fun xs H Q => ∃ x n, xs = [x] ∧ LenV K x H n ∧ Q (.int (n : Int)) H
theorem lenK (h : X.K = K) : CallR X (.builtin "len") (rLenK K) := by
  subst h
  exact call_len
theorem isiK (h : X.K = K) : CallR X (.builtin "isinstance") (rIsi K) := h ▸ call_isi
theorem eqK (h : X.K = K) (hu : X.A.units + 64 < cLine) : OpR X (compareOp .Eq) (rEqD K) := h ▸ op_eqD hu
theorem neK (h : X.K = K) (hu : X.A.units + 64 < cLine) : OpR X (compareOp .NotEq) (rNeD K) := h ▸ op_neD hu
theorem inK (h : X.K = K) (hu : X.A.units + 65 < cLine) : OpR X (compareOp .In) (rInD K) := h ▸ op_inD hu
theorem ninK (h : X.K = K) (hu : X.A.units + 65 < cLine) : OpR X (compareOp .NotIn) (rNotInD K) := h ▸ op_notInD hu
theorem inSK (h : X.K = K) : OpR X (compareOp .In) (rIn K false) := h ▸ op_in_seq
def rLstK (K : PySem.W.Frag) : List V → Hp → VK → Prop := fun xs H Q => ∃ p ys, xs = [.ref p] ∧ (SqL K H p ys ∨ SqT K H p ys) ∧ ∀ l, H l = none → Q (.ref l) (upd H l (.lst ys))
theorem lstK (h : X.K = K) : CallR X (.type "list") (rLstK K) := by
  subst h
  exact call_list_of
def rTupK (K : PySem.W.Frag) : List V → Hp → VK → Prop := fun xs H Q => ∃ p ys, xs = [.ref p] ∧ ((SqL K H p ys ∧ ∀ l, H l = none → Q (.ref l) (upd H l (.tup ys))) ∨ (SqT K H p ys ∧ Q (.ref p) H))
theorem tupK (h : X.K = K) : CallR X (.type "tuple") (rTupK K) := by
  subst h
  exact call_tuple_of
theorem slK (h : X.K = K) : SlR X (rSlL K) := h ▸ sl_list
theorem allK (h : X.K = K) (hc : X.calm = true) : CallR X (.builtin "all") (rAll K) := h ▸ cr_all hc
theorem ptupK {es : List Expr} {k n : Nat} {t : TGs} {pos : Pos} (h : X.K = K) (hc : X.calm = true) (hg : PGs X es t) (hn : (assignEach es X.env).length = n := by rfl) (hst : (assignEach es X.env).findIdx? (·.1) = none := by rfl) : PG X (.Tuple es k pos) (gTup K n t) := h ▸ pg_tup hc hg hn hst
end
theorem hu65 {A : Around} {k : Nat} (hr : Room k A) : A.units + 65 < cLine := by have := hr.un; omega
/-! ### each def's names -/
abbrev N_is_among : List Str := ["thing", "least", "most"]
theorem sc_is_among : FnScope N_is_among ["thing", "least", "most"] (defScope s_is_among) :=
  ⟨rfl, rfl, rfl, by decide +kernel, rfl, by decide +kernel, by decide +kernel⟩
abbrev N_is_cell : List Str := ["thing"]
theorem sc_is_cell : FnScope N_is_cell ["thing"] (defScope s_is_cell) :=
  ⟨rfl, rfl, rfl, by decide +kernel, rfl, by decide +kernel, by decide +kernel⟩
abbrev N_are_cells : List Str := ["thing", "one"]
theorem sc_are_cells : FnScope N_are_cells ["thing"] (defScope s_are_cells) :=
  ⟨rfl, rfl, rfl, by decide +kernel, rfl, by decide +kernel, by decide +kernel⟩
abbrev N_is_picture : List Str := ["thing", "row"]
theorem sc_is_picture : FnScope N_is_picture ["thing"] (defScope s_is_picture) :=
  ⟨rfl, rfl, rfl, by decide +kernel, rfl, by decide +kernel, by decide +kernel⟩
abbrev N_need_picture : List Str := ["picture"]
theorem sc_need_picture : FnScope N_need_picture ["picture"] (defScope s_need_picture) :=
  ⟨rfl, rfl, rfl, by decide +kernel, rfl, by decide +kernel, by decide +kernel⟩
abbrev N_need_place : List Str := ["picture", "x", "y"]
theorem sc_need_place : FnScope N_need_place ["picture", "x", "y"] (defScope s_need_place) :=
  ⟨rfl, rfl, rfl, by decide +kernel, rfl, by decide +kernel, by decide +kernel⟩
abbrev N_in_order : List Str := ["places"]
theorem sc_in_order : FnScope N_in_order ["places"] (defScope s_in_order) :=
  ⟨rfl, rfl, rfl, by decide +kernel, rfl, by decide +kernel, by decide +kernel⟩
abbrev N_led_to : List Str := ["picture", "x", "y", "cell", "seen", "waiting", "here", "right", "down", "left", "top"]
theorem sc_led_to : FnScope N_led_to ["picture", "x", "y"] (defScope s_led_to) :=
  ⟨rfl, rfl, rfl, by decide +kernel, rfl, by decide +kernel, by decide +kernel⟩
abbrev N_regions_of : List Str := ["picture", "seen", "found", "y", "row", "x", "cell", "places", "place"]
theorem sc_regions_of : FnScope N_regions_of ["picture"] (defScope s_regions_of) :=
  ⟨rfl, rfl, rfl, by decide +kernel, rfl, by decide +kernel, by decide +kernel⟩
abbrev N_region_at : List Str := ["picture", "x", "y"]
theorem sc_region_at : FnScope N_region_at ["picture", "x", "y"] (defScope s_region_at) :=
  ⟨rfl, rfl, rfl, by decide +kernel, rfl, by decide +kernel, by decide +kernel⟩
abbrev N_border_of : List Str := ["places", "found", "x", "y", "right", "down"]
theorem sc_border_of : FnScope N_border_of ["places"] (defScope s_border_of) :=
  ⟨rfl, rfl, rfl, by decide +kernel, rfl, by decide +kernel, by decide +kernel⟩
abbrev N_l_cell : List Str := ["_law_script", "_law_k"]
theorem sc_l_cell : FnScope N_l_cell ["_law_script", "_law_k"] (defScope s_l_cell) :=
  ⟨rfl, rfl, rfl, by decide +kernel, rfl, by decide +kernel, by decide +kernel⟩
abbrev N_l_mixed : List Str := ["_law_script", "_law_k", "_law_number"]
theorem sc_l_mixed : FnScope N_l_mixed ["_law_script", "_law_k"] (defScope s_l_mixed) :=
  ⟨rfl, rfl, rfl, by decide +kernel, rfl, by decide +kernel, by decide +kernel⟩
abbrev N_l_whole : List Str := ["_law_found"]
theorem sc_l_whole : FnScope N_l_whole ["_law_found"] (defScope s_l_whole) :=
  ⟨rfl, rfl, rfl, by decide +kernel, rfl, by decide +kernel, by decide +kernel⟩
abbrev N_l_picture : List Str := ["_law_script", "_law_at", "_law_most", "_law_number", "_law_wide", "_law_high", "_law_many", "_law_step", "_law_rows", "_law_y", "_law_one", "_law_drawn", "_law_x", "_law_cell_here"]
theorem sc_l_picture : FnScope N_l_picture ["_law_script", "_law_at", "_law_most"] (defScope s_l_picture) :=
  ⟨rfl, rfl, rfl, by decide +kernel, rfl, by decide +kernel, by decide +kernel⟩
abbrev N_l_great : List Str := ["_law_script", "_law_number", "_law_wide", "_law_high", "_law_hue", "_law_other", "_law_rows", "_law_y", "_law_one", "_law_row", "_law_x"]
theorem sc_l_great : FnScope N_l_great ["_law_script"] (defScope s_l_great) :=
  ⟨rfl, rfl, rfl, by decide +kernel, rfl, by decide +kernel, by decide +kernel⟩
abbrev N_l_class : List Str := ["_law_error", "_law_words"]
theorem sc_l_class : FnScope N_l_class ["_law_error"] (defScope s_l_class) :=
  ⟨rfl, rfl, rfl, by decide +kernel, rfl, by decide +kernel, by decide +kernel⟩
abbrev N_l_wrong_picture : List Str := ["_law_number", "_law_picture_here", "_law_y", "_law_x", "_law_odd", "_law_row", "_law_rows", "_law_which", "_law_spoilt"]
theorem sc_l_wrong_picture : FnScope N_l_wrong_picture ["_law_number", "_law_picture_here"] (defScope s_l_wrong_picture) :=
  ⟨rfl, rfl, rfl, by decide +kernel, rfl, by decide +kernel, by decide +kernel⟩
abbrev N_l_copied : List Str := ["_law_picture_here", "_law_row"]
theorem sc_l_copied : FnScope N_l_copied ["_law_picture_here"] (defScope s_l_copied) :=
  ⟨rfl, rfl, rfl, by decide +kernel, rfl, by decide +kernel, by decide +kernel⟩
abbrev N_l_word : List Str := ["_law_which", "_law_picture_here", "_law_x", "_law_y", "_law_error"]
theorem sc_l_word : FnScope N_l_word ["_law_which", "_law_picture_here", "_law_x", "_law_y"] (defScope s_l_word) :=
  ⟨rfl, rfl, rfl, by decide +kernel, rfl, by decide +kernel, by decide +kernel⟩
abbrev N_l_beside : List Str := ["_law_place", "_law_x", "_law_y"]
theorem sc_l_beside : FnScope N_l_beside ["_law_place"] (defScope s_l_beside) :=
  ⟨rfl, rfl, rfl, by decide +kernel, rfl, by decide +kernel, by decide +kernel⟩
abbrev N_l_hangs : List Str := ["_law_places", "_law_left", "_law_place", "_law_waiting"]
theorem sc_l_hangs : FnScope N_l_hangs ["_law_places"] (defScope s_l_hangs) :=
  ⟨rfl, rfl, rfl, by decide +kernel, rfl, by decide +kernel, by decide +kernel⟩
abbrev N_l_rises : List Str := ["_law_places", "_law_k"]
theorem sc_l_rises : FnScope N_l_rises ["_law_places"] (defScope s_l_rises) :=
  ⟨rfl, rfl, rfl, by decide +kernel, rfl, by decide +kernel, by decide +kernel⟩
abbrev N_l_is_region : List Str := ["_law_picture_here", "_law_region", "_law_place"]
theorem sc_l_is_region : FnScope N_l_is_region ["_law_picture_here", "_law_region"] (defScope s_l_is_region) :=
  ⟨rfl, rfl, rfl, by decide +kernel, rfl, by decide +kernel, by decide +kernel⟩
abbrev N_l_owners : List Str := ["_law_found", "_law_owners_here", "_law_k", "_law_place"]
theorem sc_l_owners : FnScope N_l_owners ["_law_found"] (defScope s_l_owners) :=
  ⟨rfl, rfl, rfl, by decide +kernel, rfl, by decide +kernel, by decide +kernel⟩
abbrev N_l_parted : List Str := ["_law_picture_here", "_law_owners_here", "_law_place", "_law_x", "_law_y", "_law_other"]
theorem sc_l_parted : FnScope N_l_parted ["_law_picture_here", "_law_owners_here"] (defScope s_l_parted) :=
  ⟨rfl, rfl, rfl, by decide +kernel, rfl, by decide +kernel, by decide +kernel⟩
abbrev N_l_borders_right : List Str := ["_law_owners_here", "_law_found", "_law_k", "_law_many", "_law_place", "_law_other", "_law_handed", "_law_told"]
theorem sc_l_borders_right : FnScope N_l_borders_right ["_law_owners_here", "_law_found"] (defScope s_l_borders_right) :=
  ⟨rfl, rfl, rfl, by decide +kernel, rfl, by decide +kernel, by decide +kernel⟩
abbrev N_l_refused : List Str := ["_law_picture_here", "_law_number", "_law_bad", "_law_wide", "_law_high", "_law_odd", "_law_down"]
theorem sc_l_refused : FnScope N_l_refused ["_law_picture_here", "_law_number"] (defScope s_l_refused) :=
  ⟨rfl, rfl, rfl, by decide +kernel, rfl, by decide +kernel, by decide +kernel⟩
abbrev N_law : List Str := ["_law_script", "_law_picture_here", "_law_handed", "_law_found", "_law_region", "_law_owners_here", "_law_whole_here", "_law_kept", "_law_cell_here", "_law_places", "_law_k", "_law_number", "_law_place", "_law_turn", "_law_told"]
theorem sc_law : FnScope N_law ["_law_script"] (defScope s_law) :=
  ⟨rfl, rfl, rfl, by decide +kernel, rfl, by decide +kernel, by decide +kernel⟩
end Cf

set_option Elab.async false
set_option linter.all false
set_option maxRecDepth 100000
set_option maxHeartbeats 4000000
namespace Cf
open PySem PySem.Spec PyProof.Rows L2
/-! ### what a picture is -/
/-- a thing of another built-in type than T -/
def NotTy (K : PySem.W.Frag) (H : Hp) (T : String) (x : V) : Prop := ∃ t, TyX K H x (.type t) ∧ kitB t T = some false
theorem tyOf_ext {K : PySem.W.Frag} {H H' : Hp} {x : V} {t : Value} (e : Same H H') (h : TyOf K H x t) : TyOf K H' x t := by
  cases h with
  | non => exact .non
  | bl b => exact .bl b
  | int i => exact .int i
  | str y => exact .str y
  | flt y => exact .flt y
  | lst h => exact .lst (e _ _ h)
  | frz h => exact .frz (e _ _ h)
  | tup h => exact .tup (e _ _ h)
  | dK h => exact .dK (e _ _ h)
  | dT h => exact .dT (e _ _ h)
  | ins h a b c d f => exact .ins (e _ _ h) a b c d f
theorem tyX_ext {K : PySem.W.Frag} {H H' : Hp} {x : V} {t : Value} (e : Same H H') (h : TyX K H x t) : TyX K H' x t := by
  cases h with
  | base h => exact .base (tyOf_ext e h)
  | byt b => exact .byt b
  | set h => exact .set (e _ _ h)
  | kList h c => exact .kList h c
  | kTuple h c => exact .kTuple h c
  | kDict h c => exact .kDict h c
  | fTuple h => exact .fTuple (e _ _ h)
  | fDict h => exact .fDict (e _ _ h)
theorem NotTy.ext {K : PySem.W.Frag} {H H' : Hp} {T : String} {x : V} (e : Same H H') (h : NotTy K H T x) : NotTy K H' T x := by
  obtain ⟨t, a, b⟩ := h
  exact ⟨t, tyX_ext e a, b⟩
/-- whether a thing is a cell -/
def CellB (K : PySem.W.Frag) (H : Hp) (lo hi : Int) (x : V) (b : Bool) : Prop := (∃ i, x = .int i ∧ b = (decide (lo ≤ i) && decide (i ≤ hi))) ∨ (((∃ c, x = .bl c) ∨ NotTy K H "int" x) ∧ b = false)
theorem CellB.ext {K : PySem.W.Frag} {H H' : Hp} {lo hi : Int} {x : V} {b : Bool} (e : Same H H') (h : CellB K H lo hi x b) : CellB K H' lo hi x b := by
  rcases h with h | ⟨h | h, hb⟩
  · exact .inl h
  · exact .inr ⟨.inl h, hb⟩
  · exact .inr ⟨.inr (h.ext e), hb⟩
def spAmong (K : PySem.W.Frag) : Sp := fun vs H Q _ => ∃ x lo hi b, vs = [x, .int lo, .int hi] ∧ CellB K H lo hi x b ∧ Q (.bl b) H
section
variable {P : Program} {w : World} {K : PySem.W.Frag} {mg : Str → Option Value} {base : Heap} {CP CO CF S a0 a1 a2 a3 : Addr}
theorem ok_is_among (D : Df K mg "is_among" s_is_among) (T : Tx K mg CP CO CF S a0 a1 a2 a3) : Cal P w K mg base CX0 1 "is_among" ["thing", "least", "most"] (spAmong K) := by
  refine cal_of D sc_is_among (fun _ _ _ _ _ _ us hl => match us, hl with | [_, _, _], _ => rfl) (fun vs H Q E h => ?_) (fun f cdv A outer s H vs Q E hr h => ?_)
  · obtain ⟨x, lo, hi, b, rfl, _⟩ := h
    rfl
  · obtain ⟨x, lo, hi, b, rfl, hx, k⟩ := h
    refine ⟨_, (pss_one (ps_ret (pe_and (pe_callB (isiK (K := K) rfl) (by rfl) T.isinstance (by decide +kernel) (pa_cons (pv 0) (pa_cons (pe_bltn (v := .ty "int") (by rfl) T.int (by decide +kernel) rfl) pa_nil))) (pe_and (pe_not (pe_callB (isiK (K := K) rfl) (by rfl) T.isinstance (by decide +kernel) (pa_cons (pv 0) (pa_cons (pe_bltn (v := .ty "bool") (by rfl) T.bool (by decide +kernel) rfl) pa_nil)))) (pe_one (pe_chain op_le op_le (pv 1) (pv 0) (pv 2))))))), ?_⟩
    rcases hx with ⟨i, rfl, rfl⟩ | ⟨⟨c, rfl⟩ | ⟨t, ht, hk⟩, rfl⟩
    · refine ⟨_, rfl, _, _, _, _, true, rfl, .ty _, .base (.int i), kit_ty (by decide +kernel), true, rfl, iteT ?_⟩
      refine ⟨_, rfl, _, _, _, _, false, rfl, .ty _, .base (.int i), kit_ty (by decide +kernel), false, rfl, true, rfl, iteT ?_⟩
      refine ⟨_, rfl, _, rfl, _, _, rfl, rfl, _, rfl, ?_⟩
      by_cases c : lo ≤ i
      · rw [if_pos (decide_eq_true c)]
        refine ⟨_, rfl, _, _, rfl, rfl, ?_⟩
        rw [decide_eq_true c] at k
        exact k
      · rw [if_neg (by simp [c])]
        rw [decide_eq_false c] at k
        exact k
    · refine ⟨_, rfl, _, _, _, _, true, rfl, .ty _, .base (.bl c), kit_ty (by decide +kernel), true, rfl, iteT ?_⟩
      refine ⟨_, rfl, _, _, _, _, true, rfl, .ty _, .base (.bl c), kit_ty (by decide +kernel), true, rfl, false, rfl, iteF ?_⟩
      exact k
    · refine ⟨_, rfl, _, _, _, _, false, rfl, .ty _, ht, kit_ty hk, false, rfl, iteF ?_⟩
      exact k
def spIsCell (K : PySem.W.Frag) : Sp := fun vs H Q _ => ∃ x b, vs = [x] ∧ CellB K H 0 15 x b ∧ Q (.bl b) H
theorem ok_is_cell (D : Df K mg "is_cell" s_is_cell) (T : Tx K mg CP CO CF S a0 a1 a2 a3) (c_is_among : Cal P w K mg base CX0 1 "is_among" ["thing", "least", "most"] (spAmong K)) : Cal P w K mg base CX0 2 "is_cell" ["thing"] (spIsCell K) := by
  refine cal_of D sc_is_cell (fun _ _ _ _ _ _ us hl => match us, hl with | [_], _ => rfl) (fun vs H Q E h => ?_) (fun f cdv A outer s H vs Q E hr h => ?_)
  · obtain ⟨x, b, rfl, _⟩ := h
    rfl
  · obtain ⟨x, b, rfl, hx, k⟩ := h
    refine ⟨_, (pss_one (ps_ret (pe_cal c_is_among hr (by decide) (by rfl) (pa_cons (pv 0) (pa_cons pe_int (pa_cons (C8.pe_gc rfl T.cell) pa_nil)))))), ?_⟩
    exact ⟨_, rfl, x, 0, 15, b, rfl, hx, k⟩
/-- whether a thing is a list of cells -/
def RowB (K : PySem.W.Frag) (H : Hp) (x : V) (b : Bool) : Prop := (NotTy K H "list" x ∧ b = false) ∨ ∃ a xs bs, x = .ref a ∧ H a = some (.lst xs) ∧ xs.length ≤ 1000 ∧ Paired (CellB K H 0 15) xs bs ∧ b = bs.all id
theorem paired_ext {α β : Type} {F G : α → β → Prop} (e : ∀ a b, F a b → G a b) : ∀ {l : List α} {m : List β}, Paired F l m → Paired G l m
  | _, _, .nil => .nil
  | _, _, .cons r t => .cons (e _ _ r) (paired_ext e t)
theorem RowB.ext {K : PySem.W.Frag} {H H' : Hp} {x : V} {b : Bool} (e : Same H H') (h : RowB K H x b) : RowB K H' x b := by
  rcases h with ⟨h, hb⟩ | ⟨a, xs, bs, rfl, ha, hz, hp, hb⟩
  · exact .inl ⟨h.ext e, hb⟩
  · exact .inr ⟨a, xs, bs, rfl, e _ _ ha, hz, paired_ext (fun _ _ q => q.ext e) hp, hb⟩
theorem Same.new {H : Hp} {p : Addr} {o : HO} (h : H p = none) : Same H (upd H p o) := fun b u e => by
  rw [upd_ne (ne_of_none e h)]
  exact e
theorem Same.mut {H H' : Hp} {p : Addr} {o : HO} (e : Same H H') (h : H p = none) : Same H (upd H' p o) := fun b u q => by
  rw [upd_ne (ne_of_none q h)]
  exact e b u q
theorem tyes_go {σ : L2.St} {H : Hp} {A B : Hp → Prop} (h : A H) : tYes σ H fun b H3 => if b = true then A H3 else B H3 := by
  show (if true = true then A H else B H)
  rw [if_pos rfl]
  exact h
def spAreCells (K : PySem.W.Frag) : Sp := fun vs H Q _ => ∃ x b, vs = [x] ∧ RowB K H x b ∧ ∀ H', Same H H' → Q (.bl b) H'
theorem paired_at {α β : Type} {F : α → β → Prop} : ∀ {l : List α} {m : List β} {i : Nat} {a : α}, Paired F l m → l[i]? = some a → ∃ b, m[i]? = some b ∧ F a b
  | _, _, _, _, .nil, h => by simp at h
  | _, _, 0, _, .cons r _, h => by
    simp only [List.getElem?_cons_zero, Option.some.injEq] at h
    subst h
    exact ⟨_, rfl, r⟩
  | _, _, i + 1, a, .cons _ t, h => by
    simp only [List.getElem?_cons_succ] at h ⊢
    exact paired_at t h
theorem ok_are_cells (D : Df K mg "are_cells" s_are_cells) (T : Tx K mg CP CO CF S a0 a1 a2 a3) (c_is_cell : Cal P w K mg base CX0 2 "is_cell" ["thing"] (spIsCell K)) : Cal P w K mg base CX0 3 "are_cells" ["thing"] (spAreCells K) := by
  refine cal_of D sc_are_cells (fun _ _ _ _ _ _ us hl => match us, hl with | [_], _ => rfl) (fun vs H Q E h => ?_) (fun f cdv A outer s H vs Q E hr h => ?_)
  · obtain ⟨x, b, rfl, _⟩ := h
    rfl
  · obtain ⟨x, b, rfl, hx, k⟩ := h
    refine ⟨_, (pss_one (ps_ret (pe_and (pe_callB (isiK (K := K) rfl) (by rfl) T.isinstance (by decide +kernel) (pa_cons (pv 0) (pa_cons (pe_bltn (v := .ty "list") (by rfl) T.list (by decide +kernel) rfl) pa_nil))) (pe_one (pe_callB (allK (K := K) rfl rfl) (by rfl) T.all (by decide +kernel) (pa_cons (pe_lc (own := [("one", 1)]) (g := gName 1) (tt := tYes) rfl sc_are_cells.nd (pi_list (pv 0)) (blkOk_by (N := N_are_cells) (sc := defScope s_are_cells) (by decide +kernel)) (fun _ _ _ _ _ => (pg_name (i := 1) sc_are_cells.nd rfl (by first | exact Or.inl rfl | exact Or.inr rfl))) (fun _ _ _ _ _ => pts_nil) (fun _ _ _ _ _ => (pe_cal c_is_cell hr (by decide) (by rfl) (pa_cons (pv 1) pa_nil)))) pa_nil)))))), ?_⟩
    rcases hx with ⟨⟨t, ht, hk⟩, rfl⟩ | ⟨a, xs, bs, rfl, ha, hz, hp, rfl⟩
    · refine ⟨_, rfl, _, _, _, _, false, rfl, .ty _, ht, kit_ty hk, false, rfl, iteF ?_⟩
      exact k H (Same.refl H)
    · refine ⟨_, rfl, _, _, _, _, true, rfl, .ty _, .base (.lst ha), kit_ty (by decide +kernel), true, rfl, iteT ?_⟩
      have hlen : xs.length = bs.length := Paired.length hp
      refine ⟨_, rfl, a, rfl, ⟨xs, SqL.of ha⟩, fun Dl hD => lc_list (K := K) (xs := xs) (fun i H' => Same H H' ∧ H' Dl = some (.lst ((bs.take i).map V.bl))) ⟨Same.new hD, upd_same⟩ (fun i H' _ p => SqL.of (p.1 _ _ ha)) (fun i y H' hy p => ?_) (fun H' p => ?_)⟩
      · obtain ⟨b, hb, hcb⟩ := paired_at hp hy
        obtain ⟨p1, p2⟩ := p
        have hi := (List.getElem?_eq_some_iff.mp hy).1
        refine ⟨rfl, tyes_go ?_⟩
        refine ⟨_, rfl, y, b, rfl, hcb.ext p1, _, p2, ?_, Same.mut p1 hD, ?_⟩
        · rw [List.length_map, List.length_take]
          exact small1000 (by omega)
        · rw [take_snoc hb, List.map_append]
          exact upd_same
      · obtain ⟨p1, p2⟩ := p
        rw [hlen, List.take_length] at p2
        refine ⟨Dl, bs, rfl, SqL.of p2, k H' p1⟩
/-- a row of so many cells -/
def LenB (H : Hp) (x : V) (n : Nat) : Prop := ∃ a ys, x = .ref a ∧ H a = some (.lst ys) ∧ ys.length = n
/-- whether a thing is a picture -/
def PicB (K : PySem.W.Frag) (H : Hp) (x : V) (b : Bool) : Prop := (NotTy K H "list" x ∧ b = false) ∨ ∃ a xs, x = .ref a ∧ H a = some (.lst xs) ∧ xs.length ≤ 1000 ∧
  ((¬ (1 ≤ xs.length ∧ xs.length ≤ 24) ∧ b = false) ∨ (1 ≤ xs.length ∧ xs.length ≤ 24 ∧ ∃ bs, Paired (RowB K H) xs bs ∧ ((bs.all id = false ∧ b = false) ∨ (bs.all id = true ∧ ∃ ns : List Nat, Paired (LenB H) xs ns ∧
    b = (decide (1 ≤ ns.headD 0) && (decide (ns.headD 0 ≤ 24) && ns.all fun n => n == ns.headD 0))))))
def spIsPicture (K : PySem.W.Frag) : Sp := fun vs H Q _ => ∃ x b, vs = [x] ∧ PicB K H x b ∧ ∀ H', Same H H' → Q (.bl b) H'
theorem all_map_eq (ns : List Nat) (m : Nat) : (ns.map fun n : Nat => decide ((n : Int) = (m : Int))).all id = ns.all fun n => n == m := by
  rw [List.all_map]
  congr 1
  funext n
  show decide ((n : Int) = (m : Int)) = (n == m)
  by_cases h : n = m
  · subst h
    simp
  · have h1 : ¬ (n : Int) = (m : Int) := by omega
    have h2 : (n == m) = false := by simpa using h
    rw [decide_eq_false h1, h2]
theorem ok_is_picture (D : Df K mg "is_picture" s_is_picture) (T : Tx K mg CP CO CF S a0 a1 a2 a3) (c_are_cells : Cal P w K mg base CX0 3 "are_cells" ["thing"] (spAreCells K)) : Cal P w K mg base CX0 4 "is_picture" ["thing"] (spIsPicture K) := by
  refine cal_of D sc_is_picture (fun _ _ _ _ _ _ us hl => match us, hl with | [_], _ => rfl) (fun vs H Q E h => ?_) (fun f cdv A outer s H vs Q E hr h => ?_)
  · obtain ⟨x, b, rfl, _⟩ := h
    rfl
  · obtain ⟨x, b, rfl, hx, k⟩ := h
    refine ⟨_, (pss_cons (ps_if (PW.pt (pw_or (pt_not (pt_val (pe_callB (isiK (K := K) rfl) (by rfl) T.isinstance (by decide +kernel) (pa_cons (pv 0) (pa_cons (pe_bltn (v := .ty "list") (by rfl) T.list (by decide +kernel) rfl) pa_nil))))) (pw_or (pt_not (pt_chain op_le op_le pe_int (pe_callB (lenK (K := K) rfl) (by rfl) T.len PySem.boot_len (pa_cons (pv 0) pa_nil)) (C8.pe_gc rfl T.side))) (pw_or1 (pt_not (pt_val (pe_callB (allK (K := K) rfl rfl) (by rfl) T.all (by decide +kernel) (pa_cons (pe_lc (own := [("row", 1)]) (g := gName 1) (tt := tYes) rfl sc_is_picture.nd (pi_list (pv 0)) (blkOk_by (N := N_is_picture) (sc := defScope s_is_picture) (by decide +kernel)) (fun _ _ _ _ _ => (pg_name (i := 1) sc_is_picture.nd rfl (by first | exact Or.inl rfl | exact Or.inr rfl))) (fun _ _ _ _ _ => pts_nil) (fun _ _ _ _ _ => (pe_cal c_are_cells hr (by decide) (by rfl) (pa_cons (pv 1) pa_nil)))) pa_nil)))))))) (pss_one (ps_ret pe_bl)) pss_nil)
      (pss_one (ps_ret (pe_and (pe_chain op_le op_le pe_int (pe_callB (lenK (K := K) rfl) (by rfl) T.len PySem.boot_len (pa_cons (pe_ix (ixL (K := K) rfl) (pv 0) pe_int (fun _ _ => rfl)) pa_nil)) (C8.pe_gc rfl T.side)) (pe_one (pe_callB (allK (K := K) rfl rfl) (by rfl) T.all (by decide +kernel) (pa_cons (pe_lc (own := [("row", 1)]) (g := gName 1) (tt := tYes) rfl sc_is_picture.nd (pi_list (pv 0)) (blkOk_by (N := N_is_picture) (sc := defScope s_is_picture) (by decide +kernel)) (fun _ _ _ _ _ => (pg_name (i := 1) sc_is_picture.nd rfl (by first | exact Or.inl rfl | exact Or.inr rfl))) (fun _ _ _ _ _ => pts_nil) (fun _ _ _ _ _ => (pe_cmpR op_eq (pe_callB (lenK (K := K) rfl) (by rfl) T.len PySem.boot_len (pa_cons (pv 1) pa_nil)) (pe_callB (lenK (K := K) rfl) (by rfl) T.len PySem.boot_len (pa_cons (pe_ix (ixL (K := K) rfl) (pv 0) pe_int (fun _ _ => rfl)) pa_nil)) (nomark _)))) pa_nil))))))), ?_⟩
    rcases hx with ⟨⟨t, ht, hk⟩, rfl⟩ | ⟨a, xs, rfl, ha, hz, hx⟩
    · refine ⟨_, rfl, _, _, _, _, false, rfl, .ty _, ht, kit_ty hk, false, rfl, ?_⟩
      refine iteT ?_
      refine iteT ?_
      exact k H (Same.refl H)
    · refine ⟨_, rfl, _, _, _, _, true, rfl, .ty _, .base (.lst ha), kit_ty (by decide +kernel), true, rfl, ?_⟩
      refine iteF ?_
      refine ⟨_, rfl, _, xs.length, rfl, .inl ⟨_, SqL.of ha, rfl⟩, _, _, rfl, rfl, _, rfl, ?_⟩
      rcases hx with ⟨hn, rfl⟩ | ⟨h1, h2, bs, hp, hx⟩
      · by_cases c : (1 : Int) ≤ (xs.length : Int)
        · rw [if_pos (decide_eq_true c)]
          refine ⟨_, _, rfl, rfl, _, rfl, ?_⟩
          have c2 : ¬ ((xs.length : Int) ≤ 24) := by omega
          rw [decide_eq_false c2]
          refine iteT ?_
          refine iteT ?_
          exact k H (Same.refl H)
        · rw [if_neg (by simp [c])]
          refine ⟨false, rfl, ?_⟩
          refine iteT ?_
          refine iteT ?_
          exact k H (Same.refl H)
      · have c1 : (1 : Int) ≤ (xs.length : Int) := by omega
        have c2 : (xs.length : Int) ≤ 24 := by omega
        rw [if_pos (decide_eq_true c1)]
        refine ⟨_, _, rfl, rfl, _, rfl, ?_⟩
        rw [decide_eq_true c2]
        refine iteF ?_
        have hlen : xs.length = bs.length := Paired.length hp
        refine ⟨_, rfl, a, rfl, ⟨xs, SqL.of ha⟩, fun Dl hD => lc_list (K := K) (xs := xs) (fun i H' => Same H H' ∧ H' Dl = some (.lst ((bs.take i).map V.bl))) ⟨Same.new hD, upd_same⟩ (fun i H' _ p => SqL.of (p.1 _ _ ha)) (fun i y H' hy p => ?_) (fun H' p => ?_)⟩
        · obtain ⟨b, hb, hcb⟩ := paired_at hp hy
          obtain ⟨p1, p2⟩ := p
          have hi := (List.getElem?_eq_some_iff.mp hy).1
          refine ⟨rfl, tyes_go ?_⟩
          refine ⟨_, rfl, y, b, rfl, hcb.ext p1, fun H2 e2 => ⟨_, e2 _ _ p2, ?_, Same.mut (p1.trans e2) hD, ?_⟩⟩
          · rw [List.length_map, List.length_take]
            exact small1000 (by omega)
          · rw [take_snoc hb, List.map_append]
            exact upd_same
        · obtain ⟨p1, p2⟩ := p
          rw [hlen, List.take_length] at p2
          refine ⟨Dl, bs, rfl, SqL.of p2, _, rfl, ?_⟩
          rcases hx with ⟨hb, rfl⟩ | ⟨hb, ns, hns, rfl⟩
          · rw [hb]
            refine iteT ?_
            exact k H' p1
          · rw [hb]
            refine iteF ?_
            have hln : xs.length = ns.length := Paired.length hns
            obtain ⟨x0, hx0⟩ : ∃ x0, xs[0]? = some x0 := ⟨_, List.getElem?_eq_getElem (by omega)⟩
            obtain ⟨n0, hn0, l0, ys, rfl, hl0, hly⟩ := paired_at hns hx0
            have hd : ns.headD 0 = n0 := by
              cases ns with
              | nil => simp at hn0
              | cons m r => simpa using hn0
            rw [hd] at k
            have at0 : atI xs (0 : Int) = some (V.ref l0) := atI_nat (j := 0) hx0
            refine ⟨_, rfl, _, _, _, _, rfl, rfl, SqL.of (p1 _ _ ha), at0, _, ys.length, rfl, .inl ⟨_, SqL.of (p1 _ _ hl0), rfl⟩, _, _, rfl, rfl, _, rfl, ?_⟩
            rw [hly]
            by_cases d1 : (1 : Int) ≤ (n0 : Int)
            · have d1' : 1 ≤ n0 := by omega
              rw [decide_eq_true d1'] at k
              rw [if_pos (decide_eq_true d1)]
              refine ⟨_, _, rfl, rfl, _, rfl, ?_⟩
              by_cases d2 : (n0 : Int) ≤ 24
              · have d2' : n0 ≤ 24 := by omega
                rw [decide_eq_true d2'] at k
                rw [if_pos (decide_eq_true d2)]
                refine ⟨_, rfl, a, rfl, ⟨xs, SqL.of (p1 _ _ ha)⟩, fun D2 hD2 => lc_list (K := K) (xs := xs) (fun i H2 => Same H' H2 ∧ H2 D2 = some (.lst (((ns.map fun n : Nat => decide ((n : Int) = (n0 : Int))).take i).map V.bl))) ⟨Same.new hD2, upd_same⟩ (fun i H2 _ p => SqL.of (p.1 _ _ (p1 _ _ ha))) (fun i y H2 hy p => ?_) (fun H2 p => ?_)⟩
                · obtain ⟨m, hm, lm, zs, rfl, hlm, hlz⟩ := paired_at hns hy
                  obtain ⟨q1, q2⟩ := p
                  have hi := (List.getElem?_eq_some_iff.mp hy).1
                  refine ⟨rfl, tyes_go ?_⟩
                  refine ⟨_, rfl, _, zs.length, rfl, .inl ⟨_, SqL.of (q1 _ _ (p1 _ _ hlm)), rfl⟩, _, rfl, _, _, _, _, rfl, rfl, SqL.of (q1 _ _ (p1 _ _ ha)), at0, _, ys.length, rfl, .inl ⟨_, SqL.of (q1 _ _ (p1 _ _ hl0)), rfl⟩, rfl, _, q2, ?_, Same.mut q1 hD2, ?_⟩
                  · rw [List.length_map, List.length_take]
                    rw [List.length_map]
                    exact small1000 (by omega)
                  · have hm2 : (ns.map fun n : Nat => decide ((n : Int) = (n0 : Int)))[i]? = some (decide ((m : Int) = (n0 : Int))) := by rw [List.getElem?_map, hm]; rfl
                    rw [take_snoc hm2, List.map_append, hly, hlz]
                    have ed : decide (V.int (m : Int) = V.int (n0 : Int)) = decide ((m : Int) = (n0 : Int)) := by
                      by_cases z : (m : Int) = (n0 : Int)
                      · rw [z]
                        simp
                      · rw [decide_eq_false z, decide_eq_false (fun q => z (V.int.inj q))]
                    rw [ed]
                    exact upd_same
                · obtain ⟨q1, q2⟩ := p
                  have ll : (ns.map fun n : Nat => decide ((n : Int) = (n0 : Int))).length = xs.length := by rw [List.length_map, hln]
                  rw [← ll, List.take_length] at q2
                  refine ⟨D2, _, rfl, SqL.of q2, ?_⟩
                  rw [all_map_eq]
                  exact k H2 (p1.trans q1)
              · have d2' : ¬ n0 ≤ 24 := by omega
                rw [decide_eq_false d2'] at k
                rw [if_neg (by simp [d2])]
                exact k H' p1
            · have d1' : ¬ 1 ≤ n0 := by omega
              rw [decide_eq_false d1'] at k
              rw [if_neg (by simp [d1])]
              refine ⟨false, rfl, ?_⟩
              exact iteF (k H' p1)
end
end Cf

set_option Elab.async false
set_option linter.all false
set_option maxRecDepth 100000
set_option maxHeartbeats 4000000
namespace Cf
open PySem PySem.Spec PyProof.Rows L2
/-! ### a picture in the heap -/
/-- all but the tables stay -/
def Xt (H H' : Hp) : Prop := ∀ b o, H b = some o → (∀ ps, o ≠ .tbl ps) → H' b = some o
theorem Xt.refl (H : Hp) : Xt H H := fun _ _ h _ => h
theorem Xt.trans {H H1 H2 : Hp} (a : Xt H H1) (b : Xt H1 H2) : Xt H H2 := fun c o h n => b c o (a c o h n) n
theorem Same.xt {H H' : Hp} (e : Same H H') : Xt H H' := fun b o h _ => e b o h
theorem Xt.l {H H' : Hp} (e : Xt H H') {b : Addr} {xs : List V} (h : H b = some (.lst xs)) : H' b = some (.lst xs) := e b _ h (fun _ z => nomatch z)
theorem Xt.t {H H' : Hp} (e : Xt H H') {b : Addr} {xs : List V} (h : H b = some (.tup xs)) : H' b = some (.tup xs) := e b _ h (fun _ z => nomatch z)
theorem Xt.d {H H' : Hp} (e : Xt H H') {b : Addr} {xs : List (List Key × V)} (h : H b = some (.dT xs)) : H' b = some (.dT xs) := e b _ h (fun _ z => nomatch z)
theorem Xt.mut {H H' : Hp} {p : Addr} {o : HO} (e : Xt H H') (h : H p = none) : Xt H (upd H' p o) := fun b u q n => by
  rw [upd_ne (ne_of_none q h)]
  exact e b u q n
theorem Xt.new {H : Hp} {p : Addr} {o : HO} (h : H p = none) : Xt H (upd H p o) := (Xt.refl H).mut h
/-- not tracked, or a table -/
def Fr (H : Hp) (p : Addr) : Prop := ∀ o, H p = some o → ∃ ps, o = .tbl ps
theorem Fr.of {H : Hp} {p : Addr} (h : H p = none) : Fr H p := fun o e => by
  rw [h] at e
  cases e
theorem Fr.back {H H' : Hp} {p : Addr} (e : Xt H H') (h : Fr H' p) : Fr H p := fun o q => by
  cases o with
  | tbl ps => exact ⟨ps, rfl⟩
  | _ => exact h _ (e _ _ q (fun _ z => nomatch z))
theorem Xt.put {H H' : Hp} {p : Addr} {o : HO} (e : Xt H H') (h : Fr H p) : Xt H (upd H' p o) := fun b u q n => by
  by_cases hb : b = p
  · subst hb
    obtain ⟨ps, z⟩ := h _ q
    exact (n ps z).elim
  · rw [upd_ne hb]
    exact e b u q n
theorem Fr.nel {H : Hp} {p b : Addr} {xs : List V} (h : Fr H p) (e : H b = some (.lst xs)) : b ≠ p := fun z => by
  subst z
  obtain ⟨ps, q⟩ := h _ e
  cases q
theorem Fr.net {H : Hp} {p b : Addr} {xs : List V} (h : Fr H p) (e : H b = some (.tup xs)) : b ≠ p := fun z => by
  subst z
  obtain ⟨ps, q⟩ := h _ e
  cases q
theorem Fr.ned {H : Hp} {p b : Addr} {xs : List (List Key × V)} (h : Fr H p) (e : H b = some (.dT xs)) : b ≠ p := fun z => by
  subst z
  obtain ⟨ps, q⟩ := h _ e
  cases q
structure PicAt (H : Hp) (a : Addr) (rs : List Addr) (p : Pic) : Prop where
  o : H a = some (.lst (rs.map V.ref))
  r : Paired (fun b row => H b = some (.lst ((row : List Int).map V.int))) rs p
theorem PicAt.xt {H H' : Hp} {a : Addr} {rs : List Addr} {p : Pic} (x : PicAt H a rs p) (e : Xt H H') : PicAt H' a rs p := ⟨e.l x.o, paired_ext (fun _ _ q => e.l q) x.r⟩
theorem PicAt.len {H : Hp} {a : Addr} {rs : List Addr} {p : Pic} (x : PicAt H a rs p) : rs.length = hg p := Paired.length x.r
theorem paired_get {α β : Type} {F : α → β → Prop} : ∀ {l : List α} {m : List β} {i : Nat} {b : β}, Paired F l m → m[i]? = some b → ∃ a, l[i]? = some a ∧ F a b
  | _, _, _, _, .nil, h => by simp at h
  | _, _, 0, _, .cons r _, h => by
    simp only [List.getElem?_cons_zero, Option.some.injEq] at h
    subst h
    exact ⟨_, rfl, r⟩
  | _, _, i + 1, b, .cons _ t, h => by
    simp only [List.getElem?_cons_succ] at h ⊢
    exact paired_get t h
/-- the row at y -/
theorem PicAt.row {H : Hp} {a : Addr} {rs : List Addr} {p : Pic} (x : PicAt H a rs p) {y : Nat} {row : List Int} (h : p[y]? = some row) : ∃ b, (rs.map V.ref)[y]? = some (V.ref b) ∧ H b = some (.lst (row.map V.int)) := by
  obtain ⟨b, hb, hr⟩ := paired_get x.r h
  exact ⟨b, by rw [List.getElem?_map, hb]; rfl, hr⟩
theorem Good.row {p : Pic} (g : Good p) {y : Nat} (h : y < hg p) : ∃ row, p[y]? = some row ∧ row.length = wd p := ⟨p[y], List.getElem?_eq_getElem h, g.rows _ (List.getElem_mem h)⟩
theorem Good.first {p : Pic} (g : Good p) : ∃ row, p[0]? = some row ∧ row.length = wd p := g.row (by have := g.h1; omega)
/-- the cell at (x, y) -/
theorem cl_at {p : Pic} {x y : Int} {row : List Int} {j i : Nat} {c : Int} (hy : y = (j : Int)) (hx : x = (i : Int)) (h : p[j]? = some row) (hc : row[i]? = some c) : cl p (x, y) = c := by
  subst hy hx
  show (p.getD (j : Int).toNat []).getD (i : Int).toNat 0 = c
  rw [Int.toNat_natCast, Int.toNat_natCast]
  simp [List.getD_eq_getElem?_getD, h, hc]
/-- a place in the heap -/
def PlAt (H : Hp) (b : Addr) (q : Pl) : Prop := H b = some (.tup [.int q.1, .int q.2])
abbrev PlsAt (H : Hp) : List Addr → List Pl → Prop := Paired (PlAt H)
theorem PlsAt.xt {H H' : Hp} {bs : List Addr} {qs : List Pl} (x : PlsAt H bs qs) (e : Xt H H') : PlsAt H' bs qs := paired_ext (fun _ _ q => e.t q) x
def kq (q : Pl) : List Key := [Sum.inl q.1, Sum.inl q.2]
theorem kq_inj {a b : Pl} (h : kq a = kq b) : a = b := by
  unfold kq at h
  simp only [List.cons.injEq, Sum.inl.injEq, and_true] at h
  exact Prod.ext h.1 h.2
/-- what an own error's class says, so that it may be raised -/
structure Rs (K : PySem.W.Frag) (C : Addr) : Prop where
  x : PySem.W.excIn K C [.type "ValueError", .type "Exception", .type "BaseException", .type "object"] "ValueError.__new__" = true
  k : PySem.W.keepIn K (.ref C) = true
  b : PySem.W.subIn K (.ref C) (.type "BaseException") = some true
  t : PySem.W.typeIn K (.ref C) = some (.type "type")
section
variable {P : Program} {w : World} {K : PySem.W.Frag} {mg : Str → Option Value} {base : Heap} {CP CO CF S a0 a1 a2 a3 : Addr}
def spNeedPic (K : PySem.W.Frag) (CP : Addr) : Sp := fun vs H Q E => ∃ x b, vs = [x] ∧ PicB K H x b ∧ ∀ H', Same H H' → (b = true → Q .non H') ∧ (b = false → E (.ref CP) none H')
theorem ok_need_picture (D : Df K mg "need_picture" s_need_picture) (T : Tx K mg CP CO CF S a0 a1 a2 a3) (R : Rs K CP) (c_is_picture : Cal P w K mg base CX0 4 "is_picture" ["thing"] (spIsPicture K)) :
    Cal P w K mg base (L2.CX P w) 5 "need_picture" ["picture"] (spNeedPic K CP) := by
  refine calX_of D sc_need_picture (fun _ _ _ _ _ _ us hl => match us, hl with | [_], _ => rfl) (fun vs H Q E h => ?_) (fun f cdv A outer s H vs Q E hr h => ?_)
  · obtain ⟨x, b, rfl, _⟩ := h
    rfl
  · obtain ⟨x, b, rfl, hx, k⟩ := h
    refine ⟨_, pss_one (ps_if (pt_not (pt_val (pe_cal c_is_picture hr (by decide) (by rfl) (pa_cons (pv 0) pa_nil))))
      (pss_one (ps_raise rfl (takes_of rfl rfl rfl rfl) (pmk_own PySem.F.excBase_ValueError R.x T.gBadPicture R.k (raises_own R.b R.t) rfl))) pss_nil), ?_⟩
    refine ⟨_, rfl, x, b, rfl, hx, fun H' e => ⟨b, rfl, ?_⟩⟩
    cases b with
    | true => exact iteF ((k H' e).1 rfl)
    | false => exact iteT ((k H' e).2 rfl)
def spNeedPlace (K : PySem.W.Frag) (CO : Addr) : Sp := fun vs H Q E => ∃ a rs p x y b c, vs = [.ref a, x, y] ∧ PicAt H a rs p ∧ Good p ∧ CellB K H 0 ((wd p : Int) - 1) x b ∧ CellB K H 0 ((hg p : Int) - 1) y c ∧ ((b && c) = true → Q .non H) ∧ ((b && c) = false → E (.ref CO) none H)
theorem ok_need_place (D : Df K mg "need_place" s_need_place) (T : Tx K mg CP CO CF S a0 a1 a2 a3) (R : Rs K CO) (c_is_among : Cal P w K mg base CX0 1 "is_among" ["thing", "least", "most"] (spAmong K)) :
    Cal P w K mg base (L2.CX P w) 2 "need_place" ["picture", "x", "y"] (spNeedPlace K CO) := by
  refine calX_of D sc_need_place (fun _ _ _ _ _ _ us hl => match us, hl with | [_, _, _], _ => rfl) (fun vs H Q E h => ?_) (fun f cdv A outer s H vs Q E hr h => ?_)
  · obtain ⟨a, rs, p, x, y, b, c, rfl, _⟩ := h
    rfl
  · obtain ⟨a, rs, p, x, y, b, c, rfl, A1, g, hx, hy, k1, k2⟩ := h
    refine ⟨_, pss_one (ps_if (PW.pt (pw_or (pt_not (pt_val (pe_cal c_is_among hr (by decide) (by rfl) (pa_cons (pv 1) (pa_cons pe_int (pa_cons (pe_op op_sub (pe_callB (lenK (K := K) rfl) (by rfl) T.len PySem.boot_len (pa_cons (pe_ix (ixL (K := K) rfl) (pv 0) pe_int (fun _ _ => rfl)) pa_nil)) pe_int) pa_nil))))))
        (pw_or1 (pt_not (pt_val (pe_cal c_is_among hr (by decide) (by rfl) (pa_cons (pv 2) (pa_cons pe_int (pa_cons (pe_op op_sub (pe_callB (lenK (K := K) rfl) (by rfl) T.len PySem.boot_len (pa_cons (pv 0) pa_nil)) pe_int) pa_nil)))))))))
      (pss_one (ps_raise rfl (takes_of rfl rfl rfl rfl) (pmk_own PySem.F.excBase_ValueError R.x T.gOutOfPlace R.k (raises_own R.b R.t) rfl))) pss_nil), ?_⟩
    obtain ⟨row, h0, hw⟩ := g.first
    obtain ⟨r0, hr0, hr1⟩ := A1.row h0
    have lr : ((row.map V.int).length : Int) = (wd p : Int) := by rw [List.length_map, hw]
    have lh : ((rs.map V.ref).length : Int) = (hg p : Int) := by rw [List.length_map, A1.len]
    refine ⟨_, rfl, _, rfl, _, _, _, _, rfl, rfl, SqL.of A1.o, atI_nat (j := 0) hr0, _, _, rfl, .inl ⟨_, SqL.of hr1, rfl⟩, _, _, rfl, rfl, ?_⟩
    refine ⟨x, 0, _, b, rfl, ?_, b, rfl, ?_⟩
    · rw [lr]
      exact hx
    · cases b with
      | false =>
        refine iteT ?_
        refine iteT ?_
        exact k2 rfl
      | true =>
        refine iteF ?_
        refine ⟨_, rfl, _, rfl, _, _, rfl, .inl ⟨_, SqL.of A1.o, rfl⟩, _, _, rfl, rfl, ?_⟩
        refine ⟨y, 0, _, c, rfl, ?_, c, rfl, ?_⟩
        · rw [lh]
          exact hy
        · cases c with
          | false => exact iteT (k2 rfl)
          | true => exact iteF (k1 rfl)
end
end Cf

set_option Elab.async false
set_option linter.all false
set_option maxRecDepth 100000
set_option maxHeartbeats 4000000
namespace Cf
open PySem PySem.Spec PyProof.Rows L2
/-! ### sorted(places, key=lambda place: (place[1], place[0])) -/
section
variable {prog : Program} {w : World} {A : Around} {E : Value → Shared → Prop} {s : Shared}
theorem key_item {env : Env} {m : Str → Option Value} {b : Addr} {its : Array Value} {i : Int} {j : Nat} {v : Value} {k1 : Nat} {p1 p2 p3 : Pos} {Q : Value → Shared → Prop} (hk : env.scope.kind = .function) (hl : env.kindOf "place" = some .local) (hn : s.heap.Ns env.locals m)
    (hm : m "place" = some (.ref b)) (ht : IsTup s.heap b its) (h1 : -(2 ^ 63) ≤ i) (h2 : i < 2 ^ 63) (hj : seqIndex? i its.size = some j) (hv : its[j]? = some v)
    (h : Q v { s with toks := s.toks + 1 }) : wpAny (model prog w) A (eval (.Subscript (.Name "place" p1) (.Constant (.int i) k1 p2) p3) env) Q E s := by
  refine Subscript_ (wpAny_Name (wpAny_loadName_local hk hl hn hm ?_))
  refine wpAny_Constant_int ?_
  exact subscriptTail_builtinR (x := v) ht.typeIs slot_tuple_getitem.lookup (getItem_tuple (s := { s with toks := s.toks + 1 }) (j := j) (Q := fun r s' => r = v ∧ Q r s') ht h1 h2 hj hv ⟨rfl, h⟩) rfl
theorem key_body {env : Env} {m : Str → Option Value} {b : Addr} {x y : Int} {t u : Tok} {k1 k2 k3 : Nat} {p1 p2 p3 p4 p5 p6 p7 : Pos} {Q : Value → Shared → Prop} (hk : env.scope.kind = .function) (hl : env.kindOf "place" = some .local) (hn : s.heap.Ns env.locals m)
    (hm : m "place" = some (.ref b)) (ht : IsTup s.heap b #[.int x t, .int y u])
    (h : ∀ tk, Q (.ref s.heap.objs.size) { s with heap := s.heap.push { cls := .type "tuple", data := .seq #[.int y u, .int x t] }, toks := tk }) :
    wpAny (model prog w) A (eval (.Tuple [.Subscript (.Name "place" p1) (.Constant (.int 1) k1 p2) p3, .Subscript (.Name "place" p4) (.Constant (.int 0) k2 p5) p6] k3 p7) env) Q E s := by
  refine wpAny_Tuple_spliced ?_
  show wpAny _ _ (spliced ((false, eval (.Subscript (.Name "place" p1) (.Constant (.int 1) k1 p2) p3) env) :: backTo p7 (starEach [.Subscript (.Name "place" p4) (.Constant (.int 0) k2 p5) p6] env))) _ _ s
  refine Calls.spliced_cons (key_item (j := 1) hk hl hn hm ht (by decide) (by decide) rfl rfl ?_)
  show wpAny _ _ (spliced ((false, eval (.Subscript (.Name "place" p4) (.Constant (.int 0) k2 p5) p6) env) :: backTo p7 (starEach [] env))) _ _ _
  refine Calls.spliced_cons (key_item (s := { s with toks := s.toks + 1 }) (j := 0) hk hl hn hm ht (by decide) (by decide) rfl rfl ?_)
  refine Calls.spliced_nil ?_
  exact ⟨by show 2 ≤ sizeLine; decide, h _⟩
/-- the key's call -/
theorem key_call {f b c' : Addr} {q : Str} {params : Arguments} {scope : Scope} {cl : List (Str × Addr)} {pm ctv : Value} {x y : Int} {t u : Tok} {k1 k2 k3 : Nat} {p1 p2 p3 p4 p5 p6 p7 : Pos}
    (ho : s.heap.get? f = some (PySem.W.kla_obj "<lambda>" q params (.Tuple [.Subscript (.Name "place" p1) (.Constant (.int 1) k1 p2) p3, .Subscript (.Name "place" p4) (.Constant (.int 0) k2 p5) p6] k3 p7) scope cl pm c' ctv))
    (hroom : A.depth < recursionLimit) (hcd : s.heap.CodeRec (.ref c') q) (lim : s.heap.NoLimit) (ht : IsTup s.heap b #[.int x t, .int y u]) (hbind : ∀ v, bindArgs (PySem.W.kla_fn "<lambda>" q params (.Tuple [.Subscript (.Name "place" p1) (.Constant (.int 1) k1 p2) p3, .Subscript (.Name "place" p4) (.Constant (.int 0) k2 p5) p6] k3 p7) scope cl pm (.ref c') ctv) ⟨[v], []⟩ = pure [(("place" : Str), v)])
    (hco : scope.isCoroutine = false) (hgen : scope.isGenerator = false) (hk : scope.kind = .function) (hcell : ∀ y ∈ scope.names, y.2 ≠ .cell) (hloc : scope.names.lookup ("place" : Str) = some .local) :
    wpAny (model prog w) A (call (.ref f) [.ref b]) (PySem.W.KeyPure (.tuple [.int y, .int x]) s) (fun _ _ => False) s := by
  refine wpAny_call (codeAny_mono (R := fun r s' => ∃ v, r = .ok (.ret v) ∧ PySem.W.KeyPure (.tuple [.int y, .int x]) s v s') ?_ fun r s' hq => ?_)
  · refine PySem.W.kla_callFunE hroom ho rfl hco hgen rfl hcd ?_
    rw [hbind]
    refine wpAny_pure (wpAny_newFunctionEnv hcell (fun z hz => ?_) (fun h₁ hns hsb => ⟨lim.fresh _ hsb, ?_⟩) hk)
    · have e : z = (("place" : Str), Value.ref b) := by simpa using hz
      rw [e]
      exact hloc
    · have kp : ∀ c o, s.heap.get? c = some o → h₁.get? c = some o := fun c o e => hsb.extBut c o (Nat.ne_of_lt (Heap.lt_size e)) (Heap.get?_push_of_some _ e)
      show codeAny _ _ (.expr _ (PySem.W.envX q scope s.heap.objs.size f (.ref c') cl)) _ _
      refine PySem.W.kla_codeExpr ?_
      obtain ⟨ob, h1, h2, n, h3⟩ := ht
      refine key_body (x := x) (y := y) (t := t) (u := u) (b := b) hk hloc hns (by simp) ⟨ob, kp _ _ h1, h2, n, h3⟩ fun tk => ?_
      refine ⟨_, rfl, _, _, rfl, fun c o e => Heap.get?_push_of_some _ (kp c o e), ?_⟩
      exact .tuple (Heap.get?_push_size _ rfl) rfl rfl (.cons (.int y u) (.cons (.int x t) .nil))
  · obtain ⟨v, rfl, hp⟩ := hq
    exact hp
end
/-- row by row -/
def rowLe (p q : Pl) : Bool := decide (p.2 < q.2 ∨ (p.2 = q.2 ∧ p.1 ≤ q.1))
/-- the reading -/
def kSortL (K : PySem.W.Frag) (TT : List (Addr × Str)) (x : V) (H1 : Hp) (Q : VK) : Prop := LamX.Tabs TT H1 ∧ ∃ (a : Addr) (bs : List Addr) (qs : List Pl), x = .ref a ∧ SqL K H1 a (bs.map V.ref) ∧ PlsAt H1 bs qs ∧ qs.length ≤ 1000 ∧
  ∀ (H2 : Hp) (l : Addr) (cs : List Addr), Xt H1 H2 → LamX.Tabs TT H2 → Fr H1 l → H2 l = some (.lst (cs.map V.ref)) → PlsAt H2 cs (qs.mergeSort rowLe) → Q (.ref l) H2
def tSortL (K : PySem.W.Frag) (TT : List (Addr × Str)) (te : TE) : TE := fun σ H Q => te σ H fun x H1 => kSortL K TT x H1 Q
def oneV (k : V → Hp → Prop) : List V → Hp → Prop
  | [x], H => k x H
  | _, _ => False
theorem each_map {α γ : Type} {R : α → γ → Prop} {f : γ → α} (h : ∀ v x, R v x → v = f x) : ∀ {vs : List α} {xs : List γ}, PySem.W.EachIs R vs xs → vs = xs.map f
  | _, _, .nil => rfl
  | _, _, .cons r t => by rw [List.map_cons, ← each_map h t, h _ _ r]
theorem each_refs : ∀ {bs : List Addr} {qs : List Pl}, bs.length = qs.length → PySem.W.EachIs (fun v (x : Addr × Pl) => v = Value.ref x.1) (bs.map Value.ref) (bs.zip qs)
  | [], [], _ => .nil
  | b :: bs, q :: qs, h => .cons rfl (each_refs (by simpa using h))
theorem vals_refs2 : ∀ {bs : List Addr} {us : List Value}, Vals (bs.map V.ref) us → us = bs.map Value.ref
  | [], _, .nil => rfl
  | b :: bs, _, .cons r t => by
    rw [vals_refs2 t]
    have e := (show _ = Value.ref b from r)
    rw [e]
    rfl
theorem zip_pls {H : Hp} : ∀ {bs : List Addr} {qs : List Pl}, PlsAt H bs qs → ∀ x ∈ bs.zip qs, PlAt H x.1 x.2
  | _, _, .nil, x, hx => by simp at hx
  | _, _, .cons r t, x, hx => by
    rw [List.zip_cons_cons] at hx
    rcases List.mem_cons.mp hx with e | e
    · rw [e]
      exact r
    · exact zip_pls t x e
theorem pls_of {H : Hp} : ∀ {zs : List (Addr × Pl)}, (∀ x ∈ zs, PlAt H x.1 x.2) → PlsAt H (zs.map (·.1)) (zs.map (·.2))
  | [], _ => .nil
  | z :: zs, h => .cons (h z List.mem_cons_self) (pls_of fun x hx => h x (List.mem_cons_of_mem _ hx))
theorem pl_tup {X : Cx} {pins : List (Addr × Obj)} {σ : L2.St} {H : Hp} {s : Shared} (I : Inv X pins σ H s) {b : Addr} {q : Pl} (h : PlAt H b q) : ∃ t u, IsTup s.heap b #[.int q.1 t, .int q.2 u] := by
  obtain ⟨_, its, rv, ht⟩ := (show ObjOk X.prog X.w H s.heap b (.tup [.int q.1, .int q.2]) from I.hok b _ h)
  obtain ⟨u1, u2, rfl, r1, r2⟩ := vals2 rv
  obtain ⟨t, rfl⟩ := r1
  obtain ⟨u, rfl⟩ := r2
  exact ⟨t, u, ht⟩
section
variable {X : Cx}
theorem pe_sortL {TT : List (Addr × Str)} {c P : Addr} {e : Expr} {te : TE} {k : Nat} {params : Arguments} {scope : Scope} {k1 k2 k3 : Nat} {p pos lpos kpos p1 p2 p3 p4 p5 p6 p7 : Pos}
    (hg : Gl X "sorted") (hm : X.mg "sorted" = none) (he : PE X e te) (TB : LamX.TabB X.base X.mg c P) (hcode : X.env.code = .ref c) (hmT : (P, X.env.qual ++ "<lambda>") ∈ TT) (huT : ∀ p ∈ TT, p.1 = P → p.2 = X.env.qual ++ "<lambda>")
    (hr : Room (k + 2) X.A) (hdef : defaultsOf params X.env = ([], []))
    (hbind : ∀ (q : Str) (pm cv ctv v : Value), bindArgs (PySem.W.kla_fn "<lambda>" q params (.Tuple [.Subscript (.Name "place" p1) (.Constant (.int 1) k1 p2) p3, .Subscript (.Name "place" p4) (.Constant (.int 0) k2 p5) p6] k3 p7) scope (cloFrom X.env.cells scope.names []) pm cv ctv) ⟨[v], []⟩ = pure [(("place" : Str), v)])
    (hco : scope.isCoroutine = false) (hgen : scope.isGenerator = false) (hk : scope.kind = .function) (hnm : ∀ y ∈ scope.names, y.2 = .local) (hloc : scope.names.lookup ("place" : Str) = some .local)
    (hs : starEach [e] X.env = (false, eval e X.env) :: starEach [] X.env) :
    PE X (.Call (.Name "sorted" p) [e] [⟨some "key", .Lambda params (.Tuple [.Subscript (.Name "place" p1) (.Constant (.int 1) k1 p2) p3, .Subscript (.Name "place" p4) (.Constant (.int 0) k2 p5) p6] k3 p7) scope lpos, kpos⟩] pos) (tSortL X.K TT te) := by
  refine ⟨fun pins s σ H Q I h => ?_⟩
  refine wpAny_Call_Name_kw (ld_blt I hg hm (by decide +kernel : bootBuiltins "sorted" = some (.builtin "sorted")) ?_)
  refine PyProof.Rows.callWith_kw (thn ((pa_cons he pa_nil hs).run pos pins s σ H (oneV fun x H1 => kSortL X.K TT x H1 Q) I h) fun us s1 ⟨vs, H1, I1, r1, q1⟩ => ?_) (by rw [hs]; rfl) (by rw [hs]; rfl)
  show wpAny _ _ (evalAll [(do let v ← eval (.Lambda params (.Tuple [.Subscript (.Name "place" p1) (.Constant (.int 1) k1 p2) p3, .Subscript (.Name "place" p4) (.Constant (.int 0) k2 p5) p6] k3 p7) scope lpos) X.env; standAt pos; pure v)]) _ _ s1
  obtain ⟨x, rfl⟩ : ∃ x, vs = [x] := by
    cases vs with
    | nil => exact (show False from q1).elim
    | cons x r =>
      cases r with
      | nil => exact ⟨x, rfl⟩
      | cons y z => exact (show False from q1).elim
  obtain ⟨hT, a, bs, qs, rfl, hS, hP, hz, q⟩ := (show kSortL X.K TT x H1 Q from q1)
  obtain rfl := Vals.ref1 r1
  refine wpAny_evalAll_cons (wpAny_bind (LamX.lam_make2 I1 TB hcode hmT huT hT hdef (fun y hy e => by rw [hnm y hy] at e; cases e) fun f c' pm ctv H2 s2 I2 eN T2 hf hfn hfr hco' => ?_))
  refine wpAny_bind (wpAny_standAt (wpAny_pure ?_))
  refine wpAny_evalAll_nil ?_
  show wpAny _ _ (call (.builtin "sorted") [.ref a] [(Str.ofString "key", Value.ref f)]) _ _ s2
  have eX : Xt H1 H2 := eN
  have hS2 : SqL X.K H2 a (bs.map V.ref) := by
    rcases hS with (h | ⟨o, h⟩) | h
    · exact .inl (.inl (eX.l h))
    · exact .inl (.inr ⟨o, eX _ _ h (fun _ z => nomatch z)⟩)
    · exact .inr h
  obtain ⟨its, rv, pl, hzl⟩ := I2.list hS2
  obtain rfl := vals_refs2 rv
  have hlen : bs.length = qs.length := Paired.length hP
  have hP2 : PlsAt H2 bs qs := PlsAt.xt hP eX
  have hzl2 : (bs.zip qs).length = qs.length := by rw [List.length_zip]; omega
  have hcode' := I2.hok c' _ hco'
  refine PySem.W.sorted_key_data (s := s2) (b := false) (R := fun v (x : Addr × Pl) => v = Value.ref x.1) (bs := bs.zip qs) (fun x => PyData.tuple [.int x.2.2, .int x.2.1]) pl.isList (each_refs hlen) ?_ ?_ ?_ ?_ (PyProof.Rows.ksk_s1 _ _) (fun _ => PyProof.Rows.ksk_l1 _ _) (fun _ => PyProof.Rows.ksk_t1 _ _) ?_ ?_
  · intro d hd d' hd'
    obtain ⟨x, _, rfl⟩ := List.mem_map.mp hd
    obtain ⟨y, _, rfl⟩ := List.mem_map.mp hd'
    rfl
  · left
    intro d hd
    obtain ⟨x, _, rfl⟩ := List.mem_map.mp hd
    exact ⟨_, _, rfl⟩
  · rw [hzl2, sizeLine_eq]
    omega
  · intro x hx
    have e : PyData.depth (.tuple [.int x.2.2, .int x.2.1]) ≤ 3 := by
      first
        | decide
        | (simp [PyData.depth, PyData.depthAll])
    have := hr.un
    show X.A.units + 2 + PyData.depth (.tuple [.int x.2.2, .int x.2.1]) < cLine
    omega
  · rintro v x rfl hx h tk keep
    obtain ⟨⟨oc, us, t0, e1, e2, e3⟩, _, _⟩ := hcode'
    obtain ⟨t, u, ob, i1, i2, n, i3⟩ := pl_tup I2 (zip_pls hP2 x hx)
    exact key_call (s := { s2 with heap := h, toks := tk }) (keep _ _ hf) hr.in1.in1.depth ⟨c', oc, us, t0, rfl, keep _ _ e1, e2, e3⟩ (I2.nolimit.keeps keep) ⟨ob, keep _ _ i1, i2, n, i3⟩ (fun v => hbind _ _ _ _ v) hco hgen hk (fun y hy e => by rw [hnm y hy] at e; cases e) hloc
  · intro out c2 h' tk keep hfresh hget hol hE
    have ho : out = ((bs.zip qs).mergeSort (PySem.W.dataLe false fun x : Addr × Pl => PyData.tuple [.int x.2.2, .int x.2.1])).map fun x => Value.ref x.1 := each_map (fun _ _ e => e) hE
    generalize hzs : (bs.zip qs).mergeSort (PySem.W.dataLe false fun x : Addr × Pl => PyData.tuple [.int x.2.2, .int x.2.1]) = zs at ho
    have hperm : zs.Perm (bs.zip qs) := by
      rw [← hzs]
      exact List.mergeSort_perm _ _
    have hsnd : zs.map (·.2) = qs.mergeSort rowLe := by
      have e2 : (bs.zip qs).map (·.2) = qs := List.map_snd_zip (by omega)
      rw [← hzs, PySem.W.sort_maps (s := rowLe) (fun x : Addr × Pl => x.2) (fun x _ y _ => ?_), e2]
      rw [PySem.W.dataLe_ii (fun x : Addr × Pl => x.2.2) (fun x : Addr × Pl => x.2.1)]
      rfl
    have hzlen : zs.length = qs.length := hperm.length_eq.trans hzl2
    have hfl : H2 (s2.heap.objs.size + 1) = none := I2.hok.fresh (Nat.le_succ _)
    have hl2 : (zs.map fun x => V.ref x.1).length ≤ sizeLine := by
      rw [List.length_map, hzlen, sizeLine_eq]
      omega
    have rv2 : Vals (zs.map fun x => V.ref x.1) out := by
      rw [ho]
      exact vals_maps (fun x : Addr × Pl => V.ref x.1) (fun x => Value.ref x.1) zs fun _ _ => rfl
    have I3 : Inv X pins σ (upd H2 (s2.heap.objs.size + 1) (.lst (zs.map fun x => V.ref x.1))) { s2 with heap := h', toks := tk } := I2.laid (t' := tk) keep (Nat.le_succ _) ⟨hl2, out, c2, rv2, hget⟩
    have hP3 : PlsAt H2 (zs.map (·.1)) (zs.map (·.2)) := pls_of fun x hx => zip_pls hP2 x (hperm.mem_iff.mp hx)
    have e3 : (zs.map (·.1)).map V.ref = zs.map fun x => V.ref x.1 := by rw [List.map_map]; rfl
    refine ⟨.ref _, _, I3, rfl, q _ _ (zs.map (·.1)) (eX.put (Fr.back eX (Fr.of hfl))) (T2.ext (Same.new hfl)) (Fr.back eX (Fr.of hfl)) ?_ ?_⟩
    · rw [e3]
      exact upd_same
    · rw [← hsnd]
      exact PlsAt.xt hP3 (Xt.new hfl)
end
end Cf

set_option Elab.async false
set_option linter.all false
set_option maxRecDepth 100000
set_option maxHeartbeats 4000000
namespace Cf
open PySem PySem.Spec PyProof.Rows L2
/-! ### in_order -/
def qLam : Str := (envOfC "in_order" (defScope s_in_order) 0 0 .none).qual ++ "<lambda>"
abbrev TTs (Pt : Addr) : List (Addr × Str) := [(Pt, qLam)]
abbrev Tb (Pt : Addr) (H : Hp) : Prop := LamX.Tabs (TTs Pt) H
theorem Tb.same {Pt : Addr} {H H' : Hp} (t : Tb Pt H) (e : Same H H') : Tb Pt H' := t.ext e
def spInOrder (K : PySem.W.Frag) (Pt : Addr) : Sp := fun vs H Q _ => ∃ (a : Addr) (bs : List Addr) (qs : List Pl), vs = [.ref a] ∧ Tb Pt H ∧ SqL K H a (bs.map V.ref) ∧ PlsAt H bs qs ∧ qs.length ≤ 1000 ∧
  ∀ (H2 : Hp) (l : Addr) (cs : List Addr), Xt H H2 → Tb Pt H2 → Fr H l → H2 l = some (.lst (cs.map V.ref)) → PlsAt H2 cs (qs.mergeSort rowLe) → Q (.ref l) H2
section
variable {P : Program} {w : World} {K : PySem.W.Frag} {mg : Str → Option Value} {base : Heap} {CP CO CF S a0 a1 a2 a3 c Pt : Addr}
theorem ok_in_order (D : ∃ f fd, FnP K "in_order" s_in_order f fd ∧ mg "in_order" = some (.ref f) ∧ fd.code = .ref c) (T : Tx K mg CP CO CF S a0 a1 a2 a3) (TB : LamX.TabB base mg c Pt) : Cal P w K mg base CX0 4 "in_order" ["places"] (spInOrder K Pt) := by
  obtain ⟨f, fd, F, hm, hc⟩ := D
  refine ⟨f, fd, ?_, hm, F.kp, F.bindsN (fun _ _ _ _ _ _ us hl => match us, hl with | [_], _ => rfl)⟩
  obtain ⟨oc, od, dV, kV, doc, pm, an, cdv, ct, osl, rfl, lk, hcd, _, _⟩ := F.ex
  obtain rfl : cdv = .ref c := hc
  refine fn_of lk hcd sc_in_order (fun vs H Q E h => ?_) fun A outer s H vs Q E hr h => ?_
  · obtain ⟨a, bs, qs, rfl, _⟩ := h
    rfl
  · obtain ⟨a, bs, qs, rfl, h1, h2, h3, h4, h5⟩ := h
    refine ⟨_, PSs.nox (pss_one (ps_ret (pe_sortL (TT := TTs Pt) (P := Pt) (c := c) (k := 1) (by rfl) T.sorted (pv 0) TB rfl (List.mem_singleton.mpr rfl) (fun p hp _ => by rw [List.mem_singleton.mp hp]; rfl) hr rfl (fun _ _ _ _ _ => rfl) rfl rfl rfl (by decide) (by rfl) rfl))), ?_⟩
    exact ⟨_, rfl, h1, a, bs, qs, rfl, h2, h3, h4, h5⟩
end
end Cf

set_option Elab.async false
set_option linter.all false
set_option maxRecDepth 100000
set_option maxHeartbeats 4000000
namespace Cf
open PySem PySem.Spec PyProof.Rows L2
/-! ### rules that the layer lacks -/
section
variable {X : Cx}
/-- * of whole numbers, by the model's own line -/
theorem op_mulS : OpR X (binaryOp .Mult) (rI IntMulOk fun i j => .int (i * j)) := opI fun _ _ _ _ _ _ _ hc q => mul_int q hc
/-- text * number, of few -/
def rStrRep : R2 := fun x y H Q => ∃ z n, x = .str z ∧ y = .int n ∧ 0 ≤ n ∧ n ≤ 1000 ∧ z.length ≤ 1000 ∧ ∀ u : Str, (n = 0 → u = Str.empty) → (n = 1 → u = z) → Q (.str u) H
theorem rep_size (b : Array Nat) : ∀ (n : Nat) (acc : Array Nat), ((List.replicate n b).foldl (· ++ ·) acc).size = acc.size + n * b.size
  | 0, acc => by simp
  | n + 1, acc => by
    rw [List.replicate_succ, List.foldl_cons, rep_size b n, Array.size_append, Nat.succ_mul]
    omega
theorem op_strRep : OpR X (binaryOp .Mult) rStrRep := by
  intro pins s σ H x y v u Q I rx ry h
  obtain ⟨z, n, rfl, rfl, h0, h1, h2, q⟩ := h
  obtain ⟨t, rfl⟩ := rx
  obtain ⟨t', rfl⟩ := ry
  have big : (z.length : Int) ≤ 1000 := by omega
  refine PySem.P.mul_str ?_ (fun hn _ => ?_) (fun hn _ => ?_) ?_
  · have e1 : decide (n < -(2 ^ 63 : Int)) = false := decide_eq_false (by omega)
    have e2 : decide (n ≥ 2 ^ 63) = false := decide_eq_false (by omega)
    rw [e1, e2]
    rfl
  · have : (1000 : Int) ≤ (2 ^ 63 - 1) / n := by
      rw [Int.le_ediv_iff_mul_le (by omega)]
      omega
    omega
  · have hz : z.length * n.toNat ≤ 1000000 := by
      have := Nat.mul_le_mul h2 (show n.toNat ≤ 1000 by omega)
      omega
    unfold Builtin.Str.tooLong
    exact decide_eq_false (by rw [show (sizeLine : Nat) = 16777216 from sizeLine_eq]; omega)
  · by_cases c : n < 1
    · rw [if_pos c]
      exact ⟨by decide, .str Str.empty, H, I.tok _, ⟨_, rfl⟩, q _ (fun _ => rfl) (fun e => by omega)⟩
    · rw [if_neg c]
      by_cases d : (n == 1 || z.length == 0) = true
      · rw [if_pos d]
        exact ⟨.str z, H, I, ⟨_, rfl⟩, q _ (fun e => by omega) (fun _ => rfl)⟩
      · rw [if_neg d]
        refine ⟨?_, .str _, H, I.tok _, ⟨_, rfl⟩, q _ (fun e => by omega) (fun e => by rw [e] at d; exact (d rfl).elim)⟩
        have hz : z.length * n.toNat ≤ 1000000 := by
          have := Nat.mul_le_mul h2 (show n.toNat ≤ 1000 by omega)
          omega
        show ((List.replicate n.toNat z.cps).foldl (· ++ ·) #[]).size ≤ sizeLine
        rw [rep_size, sizeLine_eq]
        have e3 : z.cps.size = z.length := rfl
        rw [e3, Nat.mul_comm]
        simp
        omega
/-- t >= u of pairs of whole numbers -/
def rGeP : R2 := fun x y H Q => ∃ (a b : Addr) (u1 v1 u2 v2 : Int), x = .ref a ∧ y = .ref b ∧ H a = some (.tup [.int u1, .int v1]) ∧ H b = some (.tup [.int u2, .int v2]) ∧ Q (.bl (decide (u2 < u1 ∨ (u1 = u2 ∧ v2 ≤ v1)))) H
theorem op_geT (hu : X.A.units < cLine) : OpR X (compareOp .GtE) rGeP := by
  intro pins s σ H x y v u Q I rx ry h
  obtain ⟨a, b, u1, v1, u2, v2, rfl, rfl, ha, hb, q⟩ := h
  cases rx
  cases ry
  obtain ⟨its, r1, p1, _⟩ := I.tuple (SqT.of (K := X.K) ha)
  obtain ⟨its2, r2, p2, _⟩ := I.tuple (SqT.of (K := X.K) hb)
  obtain ⟨w1, w2, rfl, q1, q2⟩ := vals2 r1
  obtain ⟨w3, w4, rfl, q3, q4⟩ := vals2 r2
  obtain ⟨t1, rfl⟩ := q1
  obtain ⟨t2, rfl⟩ := q2
  obtain ⟨t3, rfl⟩ := q3
  obtain ⟨t4, rfl⟩ := q4
  have R := Ob.RcOp.tuples_ge (A := X.A) (s := s) (e := fun j => if j = 0 then u1 == u2 else v1 == v2) (r := fun j => if j = 0 then decide (u2 ≤ u1) else decide (v2 ≤ v1)) p1 p2 hu (fun j h1 h2 => by
    match j, h1, h2 with
    | 0, _, _ => exact SeqAt.EqAt.int_int _ _ _ _
    | 1, _, _ => exact SeqAt.EqAt.int_int _ _ _ _) (fun j h1 h2 _ => by
    match j, h1, h2 with
    | 0, _, _ => exact Ob.RcOp.ge_int _ _ _ _
    | 1, _, _ => exact Ob.RcOp.ge_int _ _ _ _)
  have e : Ob.lexAt (fun j => if j = 0 then u1 == u2 else v1 == v2) (fun j => if j = 0 then decide (u2 ≤ u1) else decide (v2 ≤ v1)) (decide (([Value.int u1 t1, Value.int v1 t2].toArray).size ≥ ([Value.int u2 t3, Value.int v2 t4].toArray).size)) 0
      (min ([Value.int u1 t1, Value.int v1 t2].toArray).size ([Value.int u2 t3, Value.int v2 t4].toArray).size) = decide (u2 < u1 ∨ (u1 = u2 ∧ v2 ≤ v1)) := by
    show (if (u1 == u2) = true then (if (v1 == v2) = true then true else decide (v2 ≤ v1)) else decide (u2 ≤ u1)) = _
    by_cases c1 : u1 = u2
    · by_cases c2 : v1 = v2
      · simp [c1, c2]
      · simp [c1, c2]
    · have c3 : (u1 == u2) = false := by simpa using c1
      rw [c3]
      by_cases c4 : u2 < u1
      · have : u2 ≤ u1 := by omega
        simp [c4, this]
      · have h5 : ¬ u2 ≤ u1 := by omega
        simp [c4, h5, c1]
  rw [e] at R
  exact R X.prog X.w X.xe (EP X pins σ Q) ⟨.bl _, H, I, rfl, q⟩
/-- {(..): v} of one tuple key -/
def tDisp1T (tk tv : TE) : TE := fun σ H Q => ∀ p, H p = none → tk σ (upd H p (.dT [])) fun x H1 => tv σ H1 fun y H2 => H2 p = some (.dT []) ∧ ∃ (b : Addr) (k : List Key), x = .ref b ∧ H2 b = some (.tup (k.map kV)) ∧ Q (.ref p) (upd H2 p (.dT [(k, y)]))
def onePair (k : V → V → Hp → Prop) : List (V × V) → Hp → Prop
  | [(x, y)], H => k x y H
  | _, _ => False
theorem pe_disp1T {k v : Expr} {tk tv : TE} {pos : Pos} (hr : X.A.units < cLine) (hk : PE X k tk) (hv : PE X v tv) : PE X (.Dict [some k] [v] pos) (tDisp1T tk tv) := by
  refine ⟨fun pins s σ H Q I q => ?_⟩
  have hn := I.hok.fresh (Nat.le_refl s.heap.objs.size)
  have I1 := I.laid (a := s.heap.objs.size) (o := .dT []) (h' := s.heap.push { cls := .type "dict", data := .dict #[] }) (t' := s.toks) (fun _ _ q => Heap.get?_push_of_some _ q) (Nat.le_refl _) (dt_empty s.heap I.big)
  rw [arm_eval_Dict]
  refine wpAny_bind (wpAny_standAt ?_)
  show wpAny _ _ (dictDisplay ((pairTrees [some k] [v] X.env pos).map fun p => (some p.1, p.2))) _ _ s
  rw [dictDisplay_pairs _ (by simp [pairTrees]) (by simp [pairTrees])]
  refine wpAny_bind (wpAny_subDictH (knd := tupleKind (mixKind X.prog X.w)) hr (by simp [pairTrees]) ?_)
  refine thn ((pps_cons hk hv pps_nil).run pins _ σ _ (onePair fun x y H2 => H2 s.heap.objs.size = some (.dT []) ∧ ∃ (b : Addr) (k : List Key), x = .ref b ∧ H2 b = some (.tup (k.map kV)) ∧ Q (.ref s.heap.objs.size) (upd H2 s.heap.objs.size (.dT [(k, y)]))) I1 (q _ hn)) fun ws s2 hh => ?_
  obtain ⟨ps, H2, I2, rel, q2⟩ := hh
  obtain ⟨x, y, rfl⟩ : ∃ x y, ps = [(x, y)] := by
    match ps, q2 with
    | [(x, y)], _ => exact ⟨x, y, rfl⟩
  obtain ⟨e, b, kk, rfl, hb, qq⟩ := (show H2 s.heap.objs.size = some (.dT []) ∧ ∃ (b : Addr) (k : List Key), x = .ref b ∧ H2 b = some (.tup (k.map kV)) ∧ Q (.ref s.heap.objs.size) (upd H2 s.heap.objs.size (.dT [(k, y)])) from q2)
  cases rel with
  | @cons _ w1 _ _ rr rn =>
    cases rn
    obtain ⟨u1, u2⟩ := w1
    obtain ⟨ru, rv⟩ := rr
    have ru' : u1 = Value.ref b := ru
    subst ru'
    obtain ⟨z, hd, xs0, r0, dd⟩ := dt_of I2.hok e
    cases r0
    refine ⟨[(kk, b, u2)], ⟨rfl, rfl, key_of I2.hok hb, True.intro⟩, dd, fun h' tk dd' hs => ?_⟩
    refine wpAny_pure ⟨.ref s.heap.objs.size, _, ?_, rfl, qq⟩
    have dd2 : h'.DictOfH (tupleKind (mixKind X.prog X.w)) s.heap.objs.size [(kk, b, u2)] := dd'
    obtain ⟨o, es, ep, hq, g2, g3, g4, _, g5⟩ := dd2
    have nb : b ≠ s.heap.objs.size := ne_of hb e (fun z => nomatch z)
    exact d_write I2 (by rw [e]; exact True.intro) hs ⟨o, hq⟩ ⟨by show 1 ≤ sizeLine; decide, hd, [(kk, b, u2)], .cons ⟨rfl, by rw [upd_ne nb]; exact hb, rv⟩ .nil, o, es, ep, hq, g2, g3, g4, g5⟩
/-- d == {} where d is empty -/
def rEqE : R2 := fun x y H Q => ∃ a b, x = .ref a ∧ y = .ref b ∧ H a = some (.dT []) ∧ H b = some (.dT []) ∧ Q (.bl true) H
theorem keysOf_nil {P : Program} {w : World} {es : Array DictEntry} (h : es.toList = []) : KeysOf (mixKind P w) es := fun e he => by
  have e2 : e ∈ es.toList := by simpa using he
  rw [h] at e2
  cases e2
theorem Inv.dK_of {pins : List (Addr × Obj)} {σ : L2.St} {H : Hp} {s : Shared} {a : Addr} (I : Inv X pins σ H s) (h : H a = some (.dT [])) : Inv X pins σ (upd H a (.dK [])) s := by
  obtain ⟨z, hd, xs0, r0, o, es, ep, g1, g2, g3, g4, _, g5⟩ := dt_of I.hok h
  cases r0
  have g4' : es.toList = [] := g4
  exact I.write (x := a) (e := a) (t' := s.toks) (by rw [h]; exact True.intro) (.inl rfl) (fun b u _ q => q) ⟨o, g1⟩ ⟨Nat.zero_le _, hd, [], .nil, o, es, ep, g1, g2, g3, keysOf_nil g4', by rw [g4']; exact Pairs.nil, List.nodup_nil⟩
theorem Inv.dT_of {pins : List (Addr × Obj)} {σ : L2.St} {H : Hp} {s : Shared} {a : Addr} (I : Inv X pins σ H s) (h : H a = some (.dK [])) : Inv X pins σ (upd H a (.dT [])) s := by
  obtain ⟨z, hd, vs0, r0, o, es, ep, g1, g2, g3, g4, g5, g6⟩ := (show ObjOk X.prog X.w H s.heap a (.dK []) from I.hok a _ h)
  cases r0
  have g5' : es.toList = [] := by
    cases hq : es.toList with
    | nil => rfl
    | cons e r =>
      rw [hq] at g5
      cases g5
  exact I.write (x := a) (e := a) (t' := s.toks) (by rw [h]; exact True.intro) (.inl rfl) (fun b u _ q => q) ⟨o, g1⟩ ⟨Nat.zero_le _, hd, [], .nil, o, es, ep, g1, g2, g3, g5', List.nodup_nil⟩
theorem upd_id {H : Hp} {a : Addr} {o o' : HO} (h : H a = some o) : upd (upd H a o') a o = H := by
  funext b
  unfold upd
  by_cases hb : b = a
  · rw [if_pos hb, hb, h]
  · rw [if_neg hb, if_neg hb]
theorem op_eqE (hu : X.A.units < cLine) : OpR X (compareOp .Eq) rEqE := by
  intro pins s σ H x y v u Q I rx ry h
  obtain ⟨a, b, rfl, rfl, ha, hb, q⟩ := h
  have I1 : Inv X pins σ (upd H a (.dK [])) s := Inv.dK_of I ha
  by_cases c : b = a
  · subst c
    refine wpAny_mono (op_eq_dictA hu pins s σ (upd H b (.dK [])) (.ref b) (.ref b) v u (fun z H1 => z = .bl true ∧ H1 = upd H b (.dK [])) I1 rx ry ⟨b, b, [], [], rfl, rfl, upd_same, upd_same, rfl, fun p hp => absurd hp (by simp), rfl, rfl⟩) (fun r s' hr => ?_) fun _ _ z => z
    obtain ⟨z, H1, I2, rz, ez, eH⟩ := hr
    subst ez eH
    have I3 := Inv.dT_of I2 upd_same
    rw [upd_id ha] at I3
    exact ⟨.bl true, H, I3, rz, q⟩
  · have hb1 : upd H a (.dK []) b = some (.dT []) := by rw [upd_ne c]; exact hb
    have I2 : Inv X pins σ (upd (upd H a (.dK [])) b (.dK [])) s := Inv.dK_of I1 hb1
    have ha2 : upd (upd H a (.dK [])) b (.dK []) a = some (.dK []) := by rw [upd_ne (Ne.symm c), upd_same]
    refine wpAny_mono (op_eq_dictA hu pins s σ (upd (upd H a (.dK [])) b (.dK [])) (.ref a) (.ref b) v u (fun z H1 => z = .bl true ∧ H1 = upd (upd H a (.dK [])) b (.dK [])) I2 rx ry ⟨a, b, [], [], rfl, rfl, ha2, upd_same, rfl, fun p hp => absurd hp (by simp), rfl, rfl⟩) (fun r s' hr => ?_) fun _ _ z => z
    obtain ⟨z, H1, I3, rz, ez, eH⟩ := hr
    subst ez eH
    have I4 := Inv.dT_of I3 upd_same
    rw [upd_id hb1] at I4
    have I5 := Inv.dT_of I4 upd_same
    rw [upd_id ha] at I5
    exact ⟨.bl true, H, I5, rz, q⟩
/-- d.pop(k), d a dict with tuple keys that has it -/
def rPopT1 : V → List V → Hp → VK → Prop := fun x xs H Q => ∃ (a : Addr) (kvs : List (List Key × V)) (k : List Key) (b : Addr) (v : V), x = .ref a ∧ xs = [.ref b] ∧ H a = some (.dT kvs) ∧ H b = some (.tup (k.map kV)) ∧ valV kvs k = some v ∧ Q v (upd H a (.dT (dropK kvs k)))
theorem meetsPop1 {prog : Program} {w : World} {KK : Type} [DecidableEq KK] {knd : HeapKind prog w KK} {d b : Addr} {k : KK} (hd : (d == sysModules) = false) :
    MeetsIn prog w (Builtin.«dict.pop» ⟨[.ref d, .ref b], []⟩) (fun A R s => ∃ xs p, knd.room A.in1 ∧ knd.is s.heap k b ∧ s.heap.DictOfH knd d xs ∧ xs.length ≤ sizeLine ∧ atKey xs k = some p ∧
      ∀ h' tk, h'.DictOfH knd d (DT.dropH xs k) → Heap.SameBut d s.heap h' → R (.ok (.ret p.2)) { s with heap := h', toks := tk }) :=
  .of_wp fun A R s ⟨xs, p, hu, hkey, hm, hsz, hp, hsome⟩ => by
    obtain ⟨o, es, ep, ho, hc, hdat, he, his, hn⟩ := id hm
    have hes : es.size = xs.length := size_of_entries he
    have hpart : (keyPart (Value.ref b)).isSome = false := rfl
    unfold Builtin.«dict.pop»
    refine wpAny_bind ?_
    unfold Builtin.Dict.keyAndDefault
    refine wpAny_bind (wpAny_notOrdered_dict hm.typeIs ?_)
    show wpAny _ _ (pure (d, Value.ref b, (none : Option Value))) _ _ s
    refine wpAny_pure ?_
    simp only [hpart, Bool.false_eq_true, if_false]
    refine wpAny_bind (wpAny_dictEntries ho hdat (wpAny_bind (wpAny_pure ?_)))
    have hne : es.isEmpty = false := by
      cases hem : es.isEmpty with
      | false => rfl
      | true =>
        have z : es.size = 0 := by simpa using hem
        have h0 : xs = [] := List.length_eq_zero_iff.mp (by omega)
        rw [h0] at hp
        cases hp
    rw [hne]
    simp only [Bool.false_eq_true, if_false]
    refine wpAny_bind (DT.takeH hu hkey hm hsz (fun hno => by rw [hp] at hno; cases hno) fun p' e hp' hev h' hm' hs' => ?_)
    have epp : p' = p := Option.some.inj (hp'.symm.trans hp)
    simp only [Option.isNone_some, Bool.false_eq_true, if_false]
    exact wpAny_bind (wpAny_letGo (wpAny_pure ⟨e.val, rfl, by rw [hev, epp]; exact hsome h' _ hm' hs'⟩))
theorem mt_popT1 (hu : X.A.units + 1 < cLine) : MtR X "dict.pop" rPopT1 := by
  intro pins s σ H x xs v us Q I rx rxs h
  obtain ⟨a, kvs, k, b, v0, rfl, rfl, ha, hb, hv, q⟩ := h
  cases rx
  obtain ⟨u1, rfl, r1⟩ := vals1 rxs
  cases r1
  obtain ⟨z, hd, xs', rel, dd⟩ := dt_of I.hok ha
  have hz : xs'.length ≤ sizeLine := by rw [← Paired.length rel]; exact z
  have r := rel.val k
  rw [hv] at r
  obtain ⟨p, ep, rp⟩ : ∃ p, atKey xs' k = some p ∧ RelV v0 p.2 := by
    cases e : atKey xs' k with
    | none =>
      rw [e] at r
      exact (show False from r).elim
    | some p =>
      rw [e] at r
      exact ⟨p, rfl, r⟩
  refine call_meetsIn PySem.F.slot_dict_pop dd.typeIs PySem.F.entry_dict_pop (PySem.F.args_dict_pop_2 _ _) (meetsPop1 (knd := tupleKind (mixKind X.prog X.w)) (k := k) hd)
    ⟨xs', p, tupleKind_room_in1 hu, key_of I.hok hb, dd, hz, ep, fun h' tk dd' hs => ?_⟩
  obtain ⟨o, es, ep2, hq, h2, h3, h4, _, h5⟩ := dd'
  have I2 : Inv X pins σ (upd H a (.dT (dropK kvs k))) { s with heap := h', toks := tk } :=
    d_write I (by rw [ha]; exact True.intro) hs ⟨o, hq⟩ ⟨Nat.le_trans (dropK_le kvs k) z, hd, _, (L2.DX.KT_drop k rel).keeps (fun c ys ec => (by rw [upd_ne (ne_of ec ha (fun z => nomatch z))]; exact ec)), o, es, ep2, hq, h2, h3, h4, h5⟩
  show EP X pins σ Q p.2 _
  exact ⟨v0, _, I2, rp, q⟩
/-- column by column -/
def colLe (p q : Pl) : Bool := decide (p.1 < q.1 ∨ (p.1 = q.1 ∧ p.2 ≤ q.2))
theorem each_mapR {α γ : Type} {R : α → γ → Prop} {f : γ → α} (h : ∀ v x, R v x → v = f x) : ∀ {vs : List α} {xs : List γ}, PySem.W.EachIs R vs xs → vs = xs.map f
  | _, _, .nil => rfl
  | _, _, .cons r t => by rw [List.map_cons, ← each_mapR h t, h _ _ r]
theorem each_of {γ : Type} {R : Value → γ → Prop} {f : γ → Value} (h : ∀ x, R (f x) x) : ∀ (xs : List γ), PySem.W.EachIs R (xs.map f) xs
  | [] => .nil
  | x :: xs => .cons (h x) (each_of h xs)
theorem each_ofM {γ : Type} {R : Value → γ → Prop} {f : γ → Value} : ∀ (xs : List γ), (∀ x ∈ xs, R (f x) x) → PySem.W.EachIs R (xs.map f) xs
  | [], _ => .nil
  | x :: xs, h => .cons (h x List.mem_cons_self) (each_ofM xs fun y hy => h y (List.mem_cons_of_mem _ hy))
theorem pl_tup2 {pins : List (Addr × Obj)} {σ : L2.St} {H : Hp} {s : Shared} (I : Inv X pins σ H s) {b : Addr} {q : Pl} (h : PlAt H b q) : ∃ t u, IsTup s.heap b #[.int q.1 t, .int q.2 u] := by
  obtain ⟨_, its, rv, ht⟩ := (show ObjOk X.prog X.w H s.heap b (.tup [.int q.1, .int q.2]) from I.hok b _ h)
  obtain ⟨u1, u2, rfl, r1, r2⟩ := vals2 rv
  obtain ⟨t, rfl⟩ := r1
  obtain ⟨u, rfl⟩ := r2
  exact ⟨t, u, ht⟩
/-- a place off a key -/
def plOf : List Key → Pl
  | [.inl x, .inl y] => (x, y)
  | _ => (0, 0)
theorem plOf_kq (q : Pl) : plOf (kq q) = q := rfl
/-- sorted(d), d a dict whose keys are places -/
def rSortD : List V → Hp → VK → Prop := fun vs H Q => ∃ (d : Addr) (kvs : List (List Key × V)) (qs : List Pl), vs = [.ref d] ∧ H d = some (.dT kvs) ∧ kvs.map (·.1) = qs.map kq ∧ qs.length ≤ 1000 ∧
  ∀ (l : Addr) (cs : List Addr), H l = none → PlsAt H cs (qs.mergeSort colLe) → Q (.ref l) (upd H l (.lst (cs.map V.ref)))
theorem cr_sortD (hc : X.calm = true) (hu : X.A.units + 64 < cLine) : CallR X (.builtin "sorted") rSortD := by
  intro pins s σ H xs us Q I r h
  obtain ⟨d, kvs, qs, rfl, hd, hk, hz, q⟩ := h
  obtain rfl := Vals.ref1 r
  obtain ⟨z, hs, ks, pr, o, es, ep, ho, hx, hdt, he, hn⟩ := (show ObjOk X.prog X.w H s.heap d (.dT kvs) from I.hok d _ hd)
  have l1 : es.size = ks.length := size_of_entries he
  have l2 : kvs.length = ks.length := Paired.length pr
  have lq : kvs.length = qs.length := by
    have e := congrArg List.length hk
    rw [List.length_map, List.length_map] at e
    exact e
  -- the keys, with their tuples' addresses
  have hks : ks.map (·.1) = qs.map kq := by
    rw [← hk]
    clear he hn l1 l2 lq hk z hd q
    induction pr with
    | nil => rfl
    | cons a b ih => rw [List.map_cons, List.map_cons, ih, a.1]
  have hbs : ∀ x ∈ ks, PlAt H x.2.1 (plOf x.1) := fun x hxm => by
    obtain ⟨j, hj⟩ := List.mem_iff_getElem?.mp hxm
    obtain ⟨e0, he0, r1, r2, r3⟩ := L2.DX.pget pr hj
    have e1 : (ks.map (·.1))[j]? = some x.1 := by rw [List.getElem?_map, hj]; rfl
    rw [hks, List.getElem?_map] at e1
    cases hq : qs[j]? with
    | none =>
      rw [hq] at e1
      cases e1
    | some pq =>
      rw [hq] at e1
      have e2 : kq pq = x.1 := Option.some.inj e1
      rw [r1, ← e2] at r2
      rw [← e2, plOf_kq]
      exact r2
  refine Calls.call_function_entry PyProof.Rows.kind_sorted PyProof.Rows.plain_sorted PyProof.Rows.entry_sorted (PyProof.Rows.args_sorted1 _) ?_
  unfold Builtin.«sorted»
  refine wpAny_bind (m := checkCount "sorted" 1 1 _) (wpAny_pure ?_)
  refine wpAny_bind (PySem.W.kdu_collect (A := X.A.in1) (kdl_raw hs hx hdt) (I.ok.hd hc) ho (by rw [l1, ← l2]; exact z) fun h' tk acc kp it => ?_)
  have ea : acc.toList = ks.map fun x => Value.ref x.2.1 := by
    have hl : acc.toList.length = ks.length := by rw [Array.length_toList, it.1, l1]
    refine List.ext_getElem? fun j => ?_
    rw [List.getElem?_map]
    cases hj : acc.toList[j]? with
    | none =>
      have h1 := List.getElem?_eq_none_iff.mp hj
      rw [List.getElem?_eq_none (by omega)]
      rfl
    | some v =>
      obtain ⟨en, hen, hv⟩ := it.2 j v (by rw [← Array.getElem?_toList]; exact hj)
      have qe := entry_at he j
      rw [hen] at qe
      cases hb : ks[j]? with
      | none =>
        rw [hb] at qe
        cases qe
      | some b =>
        rw [hb] at qe
        have e2 : en = entryOfKey (tupleKind (mixKind X.prog X.w)) b := Option.some.inj qe
        rw [hv, e2]
        rfl
  have I1 : Inv X pins σ H { s with heap := h', toks := tk } := I.kept kp
  rw [ea]
  refine wpAny_bind (wpAny_newList ?_ (by rw [List.length_map, ← l2]; exact z))
  have hoL : (h'.push (seqObj "list" (ks.map fun x => Value.ref x.2.1).toArray 0)).get? h'.objs.size = some (seqObj "list" (ks.map fun x => Value.ref x.2.1).toArray 0) := Heap.get?_push_size _ rfl
  show wpAny _ _ _ _ _ { s with heap := h'.push (seqObj "list" (ks.map fun x => Value.ref x.2.1).toArray 0), toks := tk }
  refine wpAny_bind (wpAny_holding (PySem.W.list_sort_data (s := { s with heap := h'.push (seqObj "list" (ks.map fun x => Value.ref x.2.1).toArray 0), toks := tk }) (A := X.A.in1) (bs := ks) (R := fun v (x : List Key × Addr × Value) => v = Value.ref x.2.1)
    (enc := fun x => PyData.tuple [.int (plOf x.1).1, .int (plOf x.1).2]) (vs := ks.map fun x => Value.ref x.2.1) hoL (each_of (γ := List Key × Addr × Value) (R := fun v x => v = Value.ref x.2.1) (f := fun x => Value.ref x.2.1) (fun _ => rfl) ks) (each_ofM (γ := List Key × Addr × Value) (f := fun x => Value.ref x.2.1) ks fun x hxm => ?_) ?_ ?_ (by rw [← l2]; exact z) ?_ fun out hol hE => ?_))
  · obtain ⟨t, u, ob, i1, i2, n, i3⟩ := pl_tup2 I (hbs x hxm)
    have i1' : (h'.push (seqObj "list" (ks.map fun x => Value.ref x.2.1).toArray 0)).get? x.2.1 = some ob := Heap.get?_push_of_some _ (kp _ _ i1)
    exact ⟨[], .tuple i1' i2 i3 (.cons (.int _ t) (.cons (.int _ u) .nil)), by simp⟩
  · intro d1 hd1 d2 hd2
    obtain ⟨x, _, rfl⟩ := List.mem_map.mp hd1
    obtain ⟨y, _, rfl⟩ := List.mem_map.mp hd2
    rfl
  · left
    intro d1 hd1
    obtain ⟨x, _, rfl⟩ := List.mem_map.mp hd1
    exact ⟨_, _, rfl⟩
  · intro x hx
    have e : PyData.depth (.tuple [.int (plOf x.1).1, .int (plOf x.1).2]) ≤ 3 := by simp [PyData.depth, PyData.depthAll]
    show X.A.units + 1 + 1 + PyData.depth (.tuple [.int (plOf x.1).1, .int (plOf x.1).2]) < cLine
    omega
  · have ho2 : out = (ks.mergeSort (PySem.W.dataLe false fun x : List Key × Addr × Value => PyData.tuple [.int (plOf x.1).1, .int (plOf x.1).2])).map fun x => Value.ref x.2.1 := each_mapR (fun _ _ e => e) hE
    generalize hzs : ks.mergeSort (PySem.W.dataLe false fun x : List Key × Addr × Value => PyData.tuple [.int (plOf x.1).1, .int (plOf x.1).2]) = zs at ho2
    have hperm : zs.Perm ks := by
      rw [← hzs]
      exact List.mergeSort_perm _ _
    have hsnd : zs.map (fun x => plOf x.1) = qs.mergeSort colLe := by
      have e2 : ks.map (fun x => plOf x.1) = qs := by
        have e3 : ks.map (fun x => plOf x.1) = (ks.map (·.1)).map plOf := by rw [List.map_map]; rfl
        rw [e3, hks, List.map_map]
        have e4 : (plOf ∘ kq) = id := by funext q; rfl
        rw [e4, List.map_id]
      rw [← hzs, PySem.W.sort_maps (s := colLe) (fun x : List Key × Addr × Value => plOf x.1) (fun x _ y _ => ?_), e2]
      rw [PySem.W.dataLe_ii (fun x : List Key × Addr × Value => (plOf x.1).1) (fun x : List Key × Addr × Value => (plOf x.1).2)]
      rfl
    obtain ⟨e', he'⟩ := PyProof.Rows.sortedHeap_at (vs := ks.map fun x => Value.ref x.2.1) (out := out.toArray) hoL
    have hlen : ((zs.map (·.2.1)).map V.ref).length ≤ sizeLine := by
      rw [List.length_map, List.length_map, hperm.length_eq, ← l2]
      exact z
    have rv : Vals ((zs.map (·.2.1)).map V.ref) out := by
      rw [ho2, List.map_map]
      exact vals_maps (fun x : List Key × Addr × Value => V.ref x.2.1) (fun x => Value.ref x.2.1) zs fun _ _ => rfl
    have hP : PlsAt H (zs.map (·.2.1)) (qs.mergeSort colLe) := by
      rw [← hsnd]
      have hz2 : ∀ x ∈ zs, PlAt H x.2.1 (plOf x.1) := fun x hx => hbs x (hperm.mem_iff.mp hx)
      clear hsnd rv hlen hperm hzs ho2
      induction zs with
      | nil => exact .nil
      | cons a r ih => exact .cons (hz2 a List.mem_cons_self) (ih fun x hx => hz2 x (List.mem_cons_of_mem _ hx))
    refine wpAny_pure ⟨_, rfl, .ref h'.objs.size, upd H h'.objs.size (.lst ((zs.map (·.2.1)).map V.ref)), I1.laid (t' := tk) (fun b u e => ?_) (Nat.le_refl _)
      (show ObjOk X.prog X.w _ _ _ (.lst ((zs.map (·.2.1)).map V.ref)) from ⟨hlen, out, e', rv, he'⟩), rfl, q _ _ (I1.hok.fresh (Nat.le_refl _)) hP⟩
    have hb : b < h'.objs.size := Heap.lt_size e
    rw [PyProof.Rows.sortedHeap_old (Nat.ne_of_lt hb) (by rw [size_push']; exact Nat.lt_succ_of_lt hb)]
    exact Heap.get?_push_of_some _ e
end
end Cf

set_option Elab.async false
set_option linter.all false
set_option maxRecDepth 100000
set_option maxHeartbeats 4000000
namespace Cf
open PySem PySem.Spec PyProof.Rows L2
/-! ### values that leave the heap as it is -/
section
variable {K : PySem.W.Frag} {σ : L2.St} {H : Hp} {ta tb tc te : TE} {t u : TT} {a : Addr} {xs : List V} {i j k n : Int} {v : V} {b : Bool}
theorem vl_ixL (ha : Val ta σ H (.ref a)) (hb : Val tb σ H (.int i)) (hs : SqL K H a xs) (h : atI xs i = some v) : Val (tOp (rIxL K) ta tb) σ H v := fun Q q => ha _ (hb _ ⟨a, xs, i, v, rfl, rfl, hs, h, q⟩)
theorem vl_ixT (ha : Val ta σ H (.ref a)) (hb : Val tb σ H (.int i)) (hs : SqT K H a xs) (h : atI xs i = some v) : Val (tOp (rIxT K) ta tb) σ H v := fun Q q => ha _ (hb _ ⟨a, xs, i, v, rfl, rfl, hs, h, q⟩)
theorem vl_lenL (ha : Val ta σ H (.ref a)) (hs : SqL K H a xs) (h : (xs.length : Int) = n) : Val (tCB (rLenK K) (tCons ta tNil)) σ H (.int n) := fun Q q => ha _ ⟨_, xs.length, rfl, .inl ⟨xs, hs, rfl⟩, by rw [h]; exact q⟩
theorem vl_lenT (ha : Val ta σ H (.ref a)) (hs : SqT K H a xs) (h : (xs.length : Int) = n) : Val (tCB (rLenK K) (tCons ta tNil)) σ H (.int n) := fun Q q => ha _ ⟨_, xs.length, rfl, .inr ⟨xs, hs, rfl⟩, by rw [h]; exact q⟩
theorem vl_I0 {g : Int → Int → V} (ha : Val ta σ H (.int i)) (hb : Val tb σ H (.int j)) : Val (tOp (rI0 g) ta tb) σ H (g i j) := fun Q q => ha _ (hb _ ⟨i, j, rfl, rfl, q⟩)
theorem vl_I {C : Int → Int → Prop} {g : Int → Int → V} (ha : Val ta σ H (.int i)) (hb : Val tb σ H (.int j)) (hc : C i j) : Val (tOp (rI C g) ta tb) σ H (g i j) := fun Q q => ha _ (hb _ ⟨i, j, rfl, rfl, hc, q⟩)
theorem vl_neg (ha : Val ta σ H (.int i)) : Val (tUn (rU fun i => .int (-i)) ta) σ H (.int (-i)) := fun Q q => ha _ ⟨i, rfl, q⟩
theorem vl_eqI (ha : Val ta σ H (.int i)) (hb : Val tb σ H (.int j)) : Val (tOp rEq ta tb) σ H (.bl (decide (i = j))) := fun Q q => ha _ (hb _ ⟨rfl, by
  have e : decide (V.int i = V.int j) = decide (i = j) := by
    by_cases c : i = j
    · rw [c]
      simp
    · rw [decide_eq_false c, decide_eq_false fun z => c (V.int.inj z)]
  rw [e]
  exact q⟩)
theorem vl_chain {f g : Int → Int → Bool} (ha : Val ta σ H (.int i)) (hb : Val tb σ H (.int j)) (hc : Val tc σ H (.int k)) : Val (tChain (rI0 fun x y => .bl (f x y)) (rI0 fun x y => .bl (g x y)) ta tb tc) σ H (.bl (f i j && g j k)) := fun Q q => ha _ (hb _ ⟨i, j, rfl, rfl, _, rfl, by
  cases e : f i j with
  | true =>
    rw [if_pos rfl]
    refine hc _ ⟨j, k, rfl, rfl, ?_⟩
    rw [e] at q
    exact q
  | false =>
    rw [if_neg Bool.false_ne_true]
    rw [e] at q
    exact q⟩)
theorem an_of (h : Val te σ H (.bl b)) : Ans (tTest te) σ H b := fun Q q => h _ ⟨b, rfl, q⟩
theorem an_eqI (ha : Val ta σ H (.int i)) (hb : Val tb σ H (.int j)) : Ans (tTest (tOp rEq ta tb)) σ H (decide (i = j)) := an_of (vl_eqI ha hb)
theorem an_neI (ha : Val ta σ H (.int i)) (hb : Val tb σ H (.int j)) : Ans (tTest (tOp rNe ta tb)) σ H (!decide (i = j)) := fun Q q => ha _ (hb _ ⟨rfl, _, rfl, by
  have e : decide (V.int i = V.int j) = decide (i = j) := by
    by_cases c : i = j
    · rw [c]
      simp
    · rw [decide_eq_false c, decide_eq_false fun z => c (V.int.inj z)]
  rw [e]
  exact q⟩)
theorem an_or (h1 : Ans t σ H b) {c : Bool} (h2 : b = false → Ans u σ H c) : Ans (tOr t u) σ H (b || c) := fun Q q => h1 _ (by
  cases b with
  | true => exact iteT q
  | false => exact iteF (h2 rfl _ q))
theorem an_and (h1 : Ans t σ H b) {c : Bool} (h2 : b = true → Ans u σ H c) : Ans (tAnd t u) σ H (b && c) := fun Q q => h1 _ (by
  cases b with
  | true => exact iteT (h2 rfl _ q)
  | false => exact iteF q)
/-! statements -/
variable {D : Ends} {t1 t2 t3 : TS}
theorem s_if (h : Ans t σ H b) (h1 : b = true → t1 D σ H) (h2 : b = false → t2 D σ H) : tIfS t t1 t2 D σ H := h _ (by
  cases b with
  | true => exact iteT (h1 rfl)
  | false => exact iteF (h2 rfl))
theorem s_set {m : Nat} (h : Val te σ H v) (q : D.nx (σ.set m (some v)) H) : tAsg te (gName m) D σ H := h _ q
theorem s_par {m l : Nat} {v w : V} (ha : Val ta σ H v) (hb : Val tb σ H w) (q : D.nx ((σ.set m (some v)).set l (some w)) H) : tPar m l (tCons ta (tCons tb tNil)) D σ H := ha _ (hb _ ⟨v, w, rfl, q⟩)
theorem s_ret (h : Val te σ H v) (q : D.rt v H) : tRet te D σ H := h _ q
theorem s_aug {m : Nat} {x y : Int} (hx : σ[m]? = some (some (.int x))) (h : Val te σ H (.int y)) (q : D.nx (σ.set m (some (.int (x + y)))) H) : tAug m te (ipI fun i j => i + j) D σ H := ⟨.int x, hx, h _ ⟨x, y, rfl, rfl, q⟩⟩
/-- xs.append(e) -/
theorem s_app {l : Addr} (ha : Val ta σ H (.ref l)) (h : Val te σ H v) (hl : H l = some (.lst xs)) (hz : xs.length ≤ 1000) (q : D.nx σ (upd H l (.lst (xs ++ [v])))) : tDrop (tBM K "list" rAppend ta (tCons te tNil)) D σ H :=
  ha _ ⟨.inl ⟨rfl, xs, SqL.of hl⟩, h _ ⟨l, xs, v, rfl, rfl, hl, small1000 hz, q⟩⟩
/-- a new pair -/
theorem w_tup2 {v w : V} {Q : VK} (ha : Val ta σ H v) (hb : Val tb σ H w) (q : ∀ p, H p = none → Q (.ref p) (upd H p (.tup [v, w]))) : tTup (tCons ta (tCons tb tNil)) σ H Q := ha _ (hb _ ⟨by show 2 ≤ sizeLine; decide, q⟩)
/-- a new list of one thing -/
theorem w_lst1 {Q : VK} (h : te σ H fun x H1 => ∀ p, H1 p = none → Q (.ref p) (upd H1 p (.lst [x]))) : tLst (tCons te tNil) σ H Q := by
  show te σ H fun x H1 => [x].length ≤ sizeLine ∧ ∀ p, H1 p = none → Q (.ref p) (upd H1 p (.lst [x]))
  have e : (fun x H1 => [x].length ≤ sizeLine ∧ ∀ p, H1 p = none → Q (.ref p) (upd H1 p (.lst [x]))) = fun (x : V) H1 => ∀ p, H1 p = none → Q (.ref p) (upd H1 p (.lst [x])) := by
    funext x H1
    exact propext ⟨fun z => z.2, fun z => ⟨by show 1 ≤ sizeLine; decide, z⟩⟩
  rw [e]
  exact h
end
/-! ### the picture's cells -/
theorem PicAt.cell {H : Hp} {a : Addr} {rs : List Addr} {p : Pic} (A : PicAt H a rs p) (g : Good p) {q : Pl} (h : ins p q) :
    ∃ b row, atI (rs.map V.ref) q.2 = some (.ref b) ∧ H b = some (.lst ((row : List Int).map V.int)) ∧ atI (row.map V.int) q.1 = some (.int (cl p q)) := by
  obtain ⟨x, y⟩ := q
  obtain ⟨h1, h2, h3, h4⟩ := h
  obtain ⟨row, hr, hw⟩ := g.row (y := y.toNat) (by omega)
  obtain ⟨b, hb, hc⟩ := A.row hr
  have hx : x.toNat < row.length := by
    have h2' : x < (wd p : Int) := h2
    omega
  obtain ⟨c, e1⟩ : ∃ c, row[x.toNat]? = some c := ⟨_, List.getElem?_eq_getElem hx⟩
  have ey : y = (y.toNat : Int) := (Int.toNat_of_nonneg h3).symm
  have ex : x = (x.toNat : Int) := (Int.toNat_of_nonneg h1).symm
  have ec := cl_at (p := p) (x := x) (y := y) ey ex hr e1
  refine ⟨b, row, ?_, hc, ?_⟩
  · show atI (rs.map V.ref) y = _
    rw [ey]
    exact atI_nat hb
  · show atI (row.map V.int) x = _
    rw [ec, ex]
    refine atI_nat ?_
    rw [List.getElem?_map, e1]
    rfl
theorem PicAt.first {H : Hp} {a : Addr} {rs : List Addr} {p : Pic} (A : PicAt H a rs p) (g : Good p) : ∃ b row, atI (rs.map V.ref) (0 : Int) = some (.ref b) ∧ H b = some (.lst ((row : List Int).map V.int)) ∧ ((row.map V.int).length : Int) = (wd p : Int) := by
  obtain ⟨row, hr, hw⟩ := g.first
  obtain ⟨b, hb, hc⟩ := A.row hr
  exact ⟨b, row, atI_nat (j := 0) hb, hc, by rw [List.length_map, hw]⟩
theorem PicAt.high {H : Hp} {a : Addr} {rs : List Addr} {p : Pic} (A : PicAt H a rs p) : ((rs.map V.ref).length : Int) = (hg p : Int) := by rw [List.length_map, A.len]
/-! ### dicts whose keys are places -/
def kvsOf (f : Pl → V) (l : List Pl) : List (List Key × V) := l.map fun q => (kq q, f q)
theorem valV_kvs (f : Pl → V) (l : List Pl) (r : Pl) : valV (kvsOf f l) (kq r) = if r ∈ l then some (f r) else none := by
  induction l with
  | nil => simp [kvsOf, valV_nil]
  | cons q l ih =>
    show valV ((kq q, f q) :: kvsOf f l) (kq r) = _
    by_cases e : kq q = kq r
    · rw [valV_pos e, kq_inj e]
      simp
    · have hne : ¬ r = q := fun z => e (by rw [z])
      rw [valV_neg e, ih]
      simp [hne]
theorem putK_kvs {f : Pl → V} {l : List Pl} {r : Pl} (h : r ∉ l) : putK (kvsOf f l) (kq r) (f r) = kvsOf f (l ++ [r]) := by
  rw [putK_new _ (by rw [valV_kvs, if_neg h])]
  unfold kvsOf
  rw [List.map_append]
  rfl
theorem kvs_keys (f : Pl → V) (l : List Pl) : (kvsOf f l).map (·.1) = l.map kq := by
  unfold kvsOf
  rw [List.map_map]
  rfl
theorem kvs_len (f : Pl → V) (l : List Pl) : (kvsOf f l).length = l.length := by
  unfold kvsOf
  rw [List.length_map]
theorem pl_key {q : Pl} : (kq q).map kV = [V.int q.1, V.int q.2] := rfl
theorem paired_snoc {α β : Type} {F : α → β → Prop} : ∀ {l : List α} {m : List β} {b : β}, Paired F l (m ++ [b]) → ∃ l' a, l = l' ++ [a] ∧ Paired F l' m ∧ F a b
  | [], [], _, h => nomatch h
  | _ :: _, [], _, .cons r .nil => ⟨[], _, rfl, .nil, r⟩
  | _ :: _, _ :: _, _, .cons r t => by
    obtain ⟨l', a, e, h1, h2⟩ := paired_snoc t
    exact ⟨_ :: l', a, by rw [e]; rfl, .cons r h1, h2⟩
theorem paired_app {α β : Type} {F : α → β → Prop} : ∀ {l l' : List α} {m m' : List β}, Paired F l m → Paired F l' m' → Paired F (l ++ l') (m ++ m')
  | _, _, _, _, .nil, h => h
  | _, _, _, _, .cons r t, h => .cons r (paired_app t h)
theorem paired_take {α β : Type} {F : α → β → Prop} : ∀ {l : List α} {m : List β} (n : Nat), Paired F l m → Paired F (l.take n) (m.take n)
  | _, _, 0, _ => .nil
  | _, _, _ + 1, .nil => .nil
  | _, _, n + 1, .cons r t => .cons r (paired_take n t)
theorem isKeys_pls {H : Hp} {f : Pl → V} : ∀ {l : List Pl} {bs : List Addr}, IsKeys H (kvsOf f l) bs → PlsAt H bs l
  | [], _, .nil => .nil
  | q :: l, _, .cons r t => .cons r (isKeys_pls t)
end Cf

set_option Elab.async false
set_option linter.all false
set_option maxRecDepth 100000
set_option maxHeartbeats 8000000
namespace Cf
open PySem PySem.Spec PyProof.Rows L2
/-! ### led_to -/
theorem mergeSort_reg {p : Pic} {s : Pl} {seen : List Pl} (hs : ins p s) (h : Fl p s seen []) : seen.mergeSort rowLe = reg p s := by
  have tr : ∀ a b c : Pl, rowLe a b = true → rowLe b c = true → rowLe a c = true := by
    intro a b c h1 h2
    unfold rowLe at *
    rw [decide_eq_true_eq] at *
    omega
  have tot : ∀ a b : Pl, (rowLe a b || rowLe b a) = true := by
    intro a b
    unfold rowLe
    rw [Bool.or_eq_true, decide_eq_true_eq, decide_eq_true_eq]
    omega
  have hp : (seen.mergeSort rowLe).Perm seen := List.mergeSort_perm _ _
  have hsrt : (seen.mergeSort rowLe).Pairwise fun a b => rowLe a b = true := List.pairwise_mergeSort tr tot _
  have hnd : (seen.mergeSort rowLe).Nodup := hp.nodup_iff.mpr h.nd
  refine bf_ext ?_ (reg_bf p s) fun q => by rw [hp.mem_iff, h.mem hs]
  refine List.Pairwise.imp₂ ?_ hsrt hnd
  intro a b h1 h2
  obtain ⟨x, y⟩ := a
  obtain ⟨u, v⟩ := b
  unfold rowLe at h1
  rw [decide_eq_true_eq] at h1
  unfold Bf
  simp only [ne_eq, Prod.mk.injEq] at h1 h2 ⊢
  omega
theorem side_at {K : PySem.W.Frag} {mg : Str → Option Value} {CP CO CF S a0 a1 a2 a3 : Addr} (T : Tx K mg CP CO CF S a0 a1 a2 a3) {j : Nat} {x : V} (h : [V.ref a0, .ref a1, .ref a2, .ref a3][j]? = some x) :
    ∃ aj dx dy, x = .ref aj ∧ (∀ H, SqT K H aj [.int dx, .int dy]) ∧ ∀ q : Pl, (near q)[j]? = some (q.1 + dx, q.2 + dy) := by
  match j, h with
  | 0, h => exact ⟨a0, 0, -1, (Option.some.inj h).symm, T.s0, fun q => by simp [near]; omega⟩
  | 1, h => exact ⟨a1, -1, 0, (Option.some.inj h).symm, T.s1, fun q => by simp [near]; omega⟩
  | 2, h => exact ⟨a2, 1, 0, (Option.some.inj h).symm, T.s2, fun q => by simp [near]⟩
  | 3, h => exact ⟨a3, 0, 1, (Option.some.inj h).symm, T.s3, fun q => by simp [near]⟩
def spLedTo (Pt : Addr) : Sp := fun vs H Q _ => ∃ (a : Addr) (rs : List Addr) (p : Pic) (x y : Int), vs = [.ref a, .int x, .int y] ∧ Tb Pt H ∧ PicAt H a rs p ∧ Good p ∧ ins p (x, y) ∧
  ∀ (H2 : Hp) (l : Addr) (cs : List Addr), Xt H H2 → Tb Pt H2 → Fr H l → H2 l = some (.lst (cs.map V.ref)) → PlsAt H2 cs (reg p (x, y)) → Q (.ref l) H2
/-- the state between two turns of the flood -/
structure FW (H0 : Hp) (d wt : Addr) (p : Pic) (s : Pl) (seen wait : List Pl) (ws : List Addr) (H : Hp) : Prop where
  same : Same H0 H
  fd : H0 d = none
  fw : H0 wt = none
  hd : H d = some (.dT (kvsOf (fun _ => .bl true) seen))
  hw : H wt = some (.lst (ws.map V.ref))
  pl : PlsAt H ws wait
/-- the loop's state, with the measure m -/
def WLed (H0 : Hp) (a d wt : Addr) (p : Pic) (s : Pl) (m : Nat) (σ : L2.St) (H : Hp) : Prop := ∃ seen wait ws v6 v7 v8 v9 v10, m ≤ 1200 ∧ m = 2 * (hg p * wd p - seen.length) + wait.length ∧
  σ = [some (.ref a), some (.int s.1), some (.int s.2), some (.int (cl p s)), some (.ref d), some (.ref wt), v6, v7, v8, v9, v10] ∧ FW H0 d wt p s seen wait ws H ∧ Fl p s seen wait
theorem FW.nwd {H0 H : Hp} {d wt : Addr} {p : Pic} {s : Pl} {seen wait : List Pl} {ws : List Addr} (F : FW H0 d wt p s seen wait ws H) : wt ≠ d := fun z => by
  have h1 := F.hw
  rw [z, F.hd] at h1
  cases h1
theorem PlsAt.same {H H' : Hp} {bs : List Addr} {qs : List Pl} (x : PlsAt H bs qs) (e : Same H H') : PlsAt H' bs qs := paired_ext (fun _ _ q => e _ _ q) x
theorem PlsAt.upd {H : Hp} {bs : List Addr} {qs : List Pl} (x : PlsAt H bs qs) {a : Addr} {o : HO} (h : ∀ b ys, H b = some (.tup ys) → b ≠ a) : PlsAt (upd H a o) bs qs := paired_ext (fun b q e => by
  have e2 : H b = some (.tup [.int q.1, .int q.2]) := e
  show L2.upd H a o b = _
  rw [upd_ne (h b _ e2)]
  exact e) x
section
variable {H0 H : Hp} {d wt t : Addr} {o : HO} {p : Pic} {s q : Pl} {seen wait : List Pl} {ws : List Addr}
theorem FW.new (F : FW H0 d wt p s seen wait ws H) (ht : H t = none) : FW H0 d wt p s seen wait ws (upd H t o) :=
  ⟨Same.mut F.same (Same.free F.same ht), F.fd, F.fw, by rw [upd_ne (ne_of_none F.hd ht)]; exact F.hd, by rw [upd_ne (ne_of_none F.hw ht)]; exact F.hw, PlsAt.upd F.pl fun b ys hb => ne_of_none hb ht⟩
theorem FW.put (F : FW H0 d wt p s seen wait ws H) (hq : q ∉ seen) : FW H0 d wt p s (seen ++ [q]) wait ws (upd H d (.dT (putK (kvsOf (fun _ => .bl true) seen) (kq q) (.bl true)))) :=
  ⟨Same.mut F.same F.fd, F.fd, F.fw, by rw [upd_same, putK_kvs (f := fun _ => V.bl true) hq], by rw [upd_ne F.nwd]; exact F.hw, PlsAt.upd F.pl fun b ys hb z => by
    rw [z, F.hd] at hb
    cases hb⟩
theorem FW.push (F : FW H0 d wt p s seen wait ws H) (ht : PlAt H t q) : FW H0 d wt p s seen (wait ++ [q]) (ws ++ [t]) (upd H wt (.lst (ws.map V.ref ++ [.ref t]))) := by
  have n : ∀ b ys, H b = some (.tup ys) → b ≠ wt := fun b ys hb z => by
    rw [z, F.hw] at hb
    cases hb
  refine ⟨Same.mut F.same F.fw, F.fd, F.fw, by rw [upd_ne (Ne.symm F.nwd)]; exact F.hd, by rw [upd_same]; simp, paired_app (PlsAt.upd F.pl n) (.cons ?_ .nil)⟩
  show upd _ _ _ t = _
  rw [upd_ne (n _ _ ht)]
  exact ht
theorem PlAt.new {b : Addr} (h : PlAt H b q) (ht : H t = none) : PlAt (upd H t o) b q := by
  have h' : H b = some (.tup [.int q.1, .int q.2]) := h
  show upd H t o b = _
  rw [upd_ne (ne_of_none h' ht)]
  exact h
theorem PlAt.put {b : Addr} {kvs : List (List Key × V)} (h : PlAt H b q) (ht : H t = some (.dT kvs)) : PlAt (upd H t o) b q := by
  have h' : H b = some (.tup [.int q.1, .int q.2]) := h
  show upd H t o b = _
  rw [upd_ne fun z => by rw [z, ht] at h'; cases h']
  exact h
theorem PlAt.push {b : Addr} {xs : List V} (h : PlAt H b q) (ht : H t = some (.lst xs)) : PlAt (upd H t o) b q := by
  have h' : H b = some (.tup [.int q.1, .int q.2]) := h
  show upd H t o b = _
  rw [upd_ne fun z => by rw [z, ht] at h'; cases h']
  exact h
theorem PlAt.mk {x y : Int} (t : Addr) (H : Hp) : PlAt (upd H t (.tup [.int x, .int y])) t (x, y) := upd_same
theorem Fl.short (g : Good p) {here : Pl} {j : Nat} (hin : ins p s) (L : FlI p s here j seen wait) : seen.length ≤ 576 := by
  have := L.len hin
  have := g.area
  omega
end
section
variable {P : Program} {w : World} {K : PySem.W.Frag} {mg : Str → Option Value} {base : Heap} {CP CO CF S a0 a1 a2 a3 c Pt : Addr}
theorem ok_led_to (D : Df K mg "led_to" s_led_to) (T : Tx K mg CP CO CF S a0 a1 a2 a3) (c_in_order : Cal P w K mg base CX0 4 "in_order" ["places"] (spInOrder K Pt)) : Cal P w K mg base CX0 5 "led_to" ["picture", "x", "y"] (spLedTo Pt) := by
  refine cal_of D sc_led_to (fun _ _ _ _ _ _ us hl => match us, hl with | [_, _, _], _ => rfl) (fun vs H Q E h => ?_) (fun f cdv A outer s H vs Q E hr h => ?_)
  · obtain ⟨a, rs, p, x, y, rfl, _⟩ := h
    rfl
  · obtain ⟨a, rs, p, x, y, rfl, tb, A1, g, hin, k⟩ := h
    refine ⟨_, (pss_cons (ps_set (i := 3) sc_led_to.nd rfl (by first | exact Or.inl rfl | exact Or.inr rfl) (pe_ix (ixL (K := K) rfl) (pe_ix (ixL (K := K) rfl) (pv 0) (pv 2) (fun _ _ => rfl)) (pv 1) (fun _ _ => rfl)))
      (pss_cons (ps_set (i := 4) sc_led_to.nd rfl (by first | exact Or.inl rfl | exact Or.inr rfl) (pe_disp1T hr.units0 (pe_tup (pa_cons (pv 1) (pa_cons (pv 2) pa_nil))) pe_bl))
      (pss_cons (ps_set (i := 5) sc_led_to.nd rfl (by first | exact Or.inl rfl | exact Or.inr rfl) (pe_lst (pa_cons (pe_tup (pa_cons (pv 1) (pa_cons (pv 2) pa_nil))) pa_nil)))
      (pss_cons (ps_while PassesOwn.never (pt_truth (pv 5) (by intro _; rfl))
      (pss_cons (ps_set (i := 6) sc_led_to.nd rfl (by first | exact Or.inl rfl | exact Or.inr rfl) (pe_bm0 PySem.F.plainAttrs_list PySem.F.slot_list_pop PySem.F.type_list_pop mt_pop (pv 5)))
      (pss_one (ps_for PassesOwn.never rfl (pi_tup (C8.pe_gc rfl T.gSIDES)) (ptupK (K := K) rfl rfl (pgs_cons (pg_name (i := 7) sc_led_to.nd rfl (by first | exact Or.inl rfl | exact Or.inr rfl)) (pgs_cons (pg_name (i := 8) sc_led_to.nd rfl (by first | exact Or.inl rfl | exact Or.inr rfl)) pgs_nil)))
      (pss_cons (ps_par (i := 9) (j := 10) (by rfl) sc_led_to.nd rfl rfl (by decide) rfl rfl (pa_cons (pe_op op_add (pe_ix (ixT (K := K) rfl) (pv 6) pe_int (fun _ _ => rfl)) (pv 7)) (pa_cons (pe_op op_add (pe_ix (ixT (K := K) rfl) (pv 6) pe_int (fun _ _ => rfl)) (pv 8)) pa_nil)) (by rfl))
      (pss_one (ps_if (PW.pt (pw_and (pt_chain op_le op_lt pe_int (pv 9) (pe_callB (lenK (K := K) rfl) (by rfl) T.len PySem.boot_len (pa_cons (pe_ix (ixL (K := K) rfl) (pv 0) pe_int (fun _ _ => rfl)) pa_nil))) (pw_and (pt_chain op_le op_lt pe_int (pv 10) (pe_callB (lenK (K := K) rfl) (by rfl) T.len PySem.boot_len (pa_cons (pv 0) pa_nil))) (pw_and1 (pt_cmpR op_eq (pe_ix (ixL (K := K) rfl) (pe_ix (ixL (K := K) rfl) (pv 0) (pv 10) (fun _ _ => rfl)) (pv 9) (fun _ _ => rfl)) (pv 3) (nomark _)))))) (pss_one (ps_if (pt_cmp (pc_dnotin (hu_of hr) (pe_tup (pa_cons (pv 9) (pa_cons (pv 10) pa_nil))) (pv 4))) (pss_cons (ps_dput (hu_of hr) (pv 4) (pe_tup (pa_cons (pv 9) (pa_cons (pv 10) pa_nil))) pe_bl rfl)
      (pss_one (ps_expr (pe_bm PySem.F.plainAttrs_list PySem.F.slot_list_append PySem.F.type_list_append mt_append (pv 5) (pa_cons (pe_tup (pa_cons (pv 9) (pa_cons (pv 10) pa_nil))) pa_nil))))) pss_nil)) pss_nil)))))))
      (pss_one (ps_ret (pe_cal c_in_order hr (by decide) (by rfl) (pa_cons (pe_callTy (call_list_dT rfl) (by rfl) T.list (by decide +kernel) (pa_cons (pv 4) pa_nil)) pa_nil)))))))), ?_⟩
    obtain ⟨rb, row, e1, e2, e3⟩ := A1.cell g hin
    refine s_set (vl_ixL (vl_ixL (val_var rfl) (val_var rfl) (SqL.of A1.o) e1) (val_var rfl) (SqL.of e2) e3) ?_
    refine fun d hd => ?_
    refine w_tup2 (val_var rfl) (val_var rfl) fun t0 ht0 => ?_
    have nd0 : d ≠ t0 := ne_of_none upd_same ht0
    refine ⟨by rw [upd_ne nd0, upd_same], t0, kq (x, y), rfl, upd_same, ?_⟩
    refine ⟨_, rfl, _, rfl, by show 2 ≤ sizeLine; decide, fun t1 ht1 => ⟨by show 1 ≤ sizeLine; decide, fun wt hwt => ?_⟩⟩
    have F0 : FW H d wt p (x, y) [(x, y)] [(x, y)] [t1] (upd (upd (upd (upd (upd H d (.dT [])) t0 (.tup [.int x, .int y])) d (.dT [(kq (x, y), .bl true)])) t1 (.tup [.int x, .int y])) wt (.lst [.ref t1])) := by
      have h0 : H t0 = none := by
        rw [upd_ne (Ne.symm nd0)] at ht0
        exact ht0
      have n1 : t1 ≠ d := fun z => by
        rw [z, upd_same] at ht1
        cases ht1
      have n2 : t1 ≠ t0 := fun z => by
        rw [z, upd_ne (Ne.symm nd0), upd_same] at ht1
        cases ht1
      have h1 : H t1 = none := by
        rw [upd_ne n1, upd_ne n2, upd_ne n1] at ht1
        exact ht1
      have m1 : wt ≠ t1 := fun z => by
        rw [z, upd_same] at hwt
        cases hwt
      have m2 : wt ≠ d := fun z => by
        rw [z, upd_ne (Ne.symm n1), upd_same] at hwt
        cases hwt
      have m3 : wt ≠ t0 := fun z => by
        rw [z, upd_ne (Ne.symm n2), upd_ne (Ne.symm nd0), upd_same] at hwt
        cases hwt
      have h2 : H wt = none := by
        rw [upd_ne m1, upd_ne m2, upd_ne m3, upd_ne m2] at hwt
        exact hwt
      refine ⟨?_, hd, h2, ?_, upd_same, ?_⟩
      · exact Same.mut (Same.mut (Same.mut (Same.mut (Same.new hd) h0) hd) h1) h2
      · rw [upd_ne (Ne.symm m2), upd_ne (Ne.symm n1), upd_same]
        rfl
      · refine .cons ?_ .nil
        show upd _ wt _ t1 = _
        rw [upd_ne (Ne.symm m1), upd_same]
    revert F0
    generalize upd (upd (upd (upd (upd H d (.dT [])) t0 (.tup [.int x, .int y])) d (.dT [(kq (x, y), .bl true)])) t1 (.tup [.int x, .int y])) wt (.lst [.ref t1]) = H1
    intro F0
    refine ⟨WLed H a d wt p (x, y), ⟨_, _, _, _, none, none, none, none, none, by have := g.area; simp only [List.length_singleton]; omega, rfl, rfl, F0, Fl.start p (x, y)⟩, ?_⟩
    rintro m σ' H' ⟨seen, wait, ws, v6, v7, v8, v9, v10, hm0, rfl, rfl, F, L⟩
    refine ⟨_, rfl, !(ws.map V.ref).isEmpty, .inl ⟨_, SqL.of F.hw, rfl⟩, ?_⟩
    rcases List.eq_nil_or_concat wait with rfl | ⟨w', here, rfl⟩
    · -- through
      obtain rfl : ws = [] := by
        have := F.pl
        cases this
        rfl
      refine iteF ?_
      refine ⟨_, rfl, d, _, rfl, .inl F.hd, fun l bs hl hk => ?_⟩
      have hP := isKeys_pls hk
      have e2 : Same H (upd H' l (.lst (bs.map V.ref))) := Same.mut F.same (Same.free F.same hl)
      refine ⟨l, bs, seen, rfl, tb.same e2, SqL.of upd_same, PlsAt.upd hP fun b ys hb => ne_of_none hb hl, by have := L.len hin; have := g.area; omega, fun H2 q cs x1 t2 f2 h2 p2 => ?_⟩
      rw [mergeSort_reg hin L] at p2
      exact k H2 q cs ((Same.xt e2).trans x1) t2 (Fr.back (Same.xt e2) f2) h2 p2
    · rw [List.concat_eq_append] at F L hm0 ⊢
      obtain ⟨ws', b, rfl, hP', hb⟩ := paired_snoc F.pl
      have hne : (!((ws' ++ [b]).map V.ref).isEmpty) = true := by simp
      rw [hne]
      refine iteT ?_
      refine ⟨fun σ' H' => ∃ m', m' < 2 * (hg p * wd p - seen.length) + (w' ++ [here]).length ∧ WLed H a d wt p (x, y) m' σ' H', fun _ _ z => z, ?_⟩
      refine ⟨_, rfl, .inl ⟨rfl, _, SqL.of F.hw⟩, wt, _, .ref b, rfl, rfl, F.hw, by simp, ?_⟩
      have nwd : wt ≠ d := F.nwd
      have F1 : FW H d wt p (x, y) seen w' ws' (upd H' wt (.lst ((ws' ++ [b]).map V.ref).dropLast)) := by
        refine ⟨Same.mut F.same F.fw, F.fd, F.fw, ?_, ?_, ?_⟩
        · rw [upd_ne (Ne.symm nwd)]
          exact F.hd
        · rw [upd_same, List.map_append]
          simp
        · exact PlsAt.upd hP' fun c ys hc z => by
            rw [z, F.hw] at hc
            cases hc
      have hb1 : PlAt (upd H' wt (.lst ((ws' ++ [b]).map V.ref).dropLast)) b here := by
        have hb' : H' b = some (.tup [.int here.1, .int here.2]) := hb
        have n1 : b ≠ wt := fun z => by
          rw [z, F.hw] at hb'
          cases hb'
        show upd _ _ _ b = _
        rw [upd_ne n1]
        exact hb'
      revert F1 hb1
      generalize upd H' wt (.lst ((ws' ++ [b]).map V.ref).dropLast) = H2
      intro F1 hb1
      refine ⟨S, rfl, ⟨_, T.sides H2⟩, ?_⟩
      refine for_tup (fun j σ' H' => ∃ seen2 wait ws v7 v8 v9 v10, 2 * (hg p * wd p - seen2.length) + wait.length < 2 * (hg p * wd p - seen.length) + (w' ++ [here]).length ∧
        σ' = [some (.ref a), some (.int x), some (.int y), some (.int (cl p (x, y))), some (.ref d), some (.ref wt), some (.ref b), v7, v8, v9, v10] ∧ FW H d wt p (x, y) seen2 wait ws H' ∧ FlI p (x, y) here j seen2 wait ∧ PlAt H' b here)
        ⟨seen, w', ws', _, _, _, _, by simp, rfl, F1, L.pop, hb1⟩ (fun i σ H _ _ => T.sides H) ?_ ?_
      · rintro j it σ3 H3 hj ⟨seen2, wait, ws, v7, v8, v9, v10, hm, rfl, F2, L2, hb2⟩
        obtain ⟨aj, dx, dy, rfl, hs, hnr⟩ := side_at T hj
        refine ⟨aj, _, rfl, hs H3, rfl, _, _, rfl, _, _, rfl, rfl, ?_⟩
        refine s_par (v := .int (here.1 + dx)) (w := .int (here.2 + dy)) ?_ ?_ ?_
        · exact vl_I0 (g := fun i j => .int (i + j)) (vl_ixT (val_var rfl) val_c (SqT.of hb2) (i := 0) rfl) (val_var rfl)
        · exact vl_I0 (g := fun i j => .int (i + j)) (vl_ixT (val_var rfl) val_c (SqT.of hb2) (i := 1) rfl) (val_var rfl)
        have A3 : PicAt H3 a rs p := A1.xt (Same.xt F2.same)
        have hnr : (near here)[j]? = some (here.1 + dx, here.2 + dy) := hnr here
        generalize here.1 + dx = u at hnr ⊢
        generalize here.2 + dy = v at hnr ⊢
        obtain ⟨r0, row0, z1, z2, z3⟩ := A3.first g
        dsimp only
        refine s_if (b := (decide (0 ≤ u) && decide (u < (wd p : Int))) && ((decide (0 ≤ v) && decide (v < (hg p : Int))) && decide (cl p (u, v) = cl p (x, y)))) (an_and (an_of ?_) fun q1 => an_and (an_of ?_) fun q2 => ?_) (fun hb => ?_) (fun hb => ?_)
        · exact vl_chain (f := fun i j => decide (i ≤ j)) (g := fun i j => decide (i < j)) val_c (val_var rfl) (vl_lenL (vl_ixL (val_var rfl) val_c (SqL.of A3.o) z1) (SqL.of z2) z3)
        · exact vl_chain (f := fun i j => decide (i ≤ j)) (g := fun i j => decide (i < j)) val_c (val_var rfl) (vl_lenL (val_var rfl) (SqL.of A3.o) A3.high)
        · simp only [Bool.and_eq_true, decide_eq_true_eq] at q1 q2
          obtain ⟨rc, rowc, c1, c2, c3⟩ := A3.cell g (q := (u, v)) ⟨q1.1, q1.2, q2.1, q2.2⟩
          exact an_eqI (vl_ixL (vl_ixL (val_var rfl) (val_var rfl) (SqL.of A3.o) c1) (val_var rfl) (SqL.of c2) c3) (val_var rfl)
        · simp only [Bool.and_eq_true, decide_eq_true_eq] at hb
          have hi : ins p (u, v) := ⟨hb.1.1, hb.1.2, hb.2.1.1, hb.2.1.2⟩
          refine ⟨_, rfl, _, rfl, by show 2 ≤ sizeLine; decide, fun t ht => ?_⟩
          have F4 := F2.new (o := .tup [.int u, .int v]) ht
          have hb4 := hb2.new (o := .tup [.int u, .int v]) ht
          refine ⟨_, rfl, d, _, rfl, DGet.t (k := kq (u, v)) F4.hd upd_same, _, rfl, ?_⟩
          rw [valV_kvs]
          generalize upd H3 t (.tup [.int u, .int v]) = H4 at F4 hb4 ⊢
          by_cases hq : (u, v) ∈ seen2
          · rw [if_pos hq]
            refine iteF ?_
            exact ⟨seen2, wait, ws, _, _, _, _, hm, rfl, F4, L2.skip hnr fun _ _ => hq, hb4⟩
          · rw [if_neg hq]
            refine iteT ?_
            have L3 := L2.add hnr hi hb.2.2 hq
            have l3 := Fl.short g hin L3
            have l4 := L3.len hin
            rw [List.length_append] at l3 l4
            refine ⟨_, rfl, ?_⟩
            refine ⟨_, rfl, _, rfl, by show 2 ≤ sizeLine; decide, fun t1 ht1 => ?_⟩
            have F5 := F4.new (o := .tup [.int u, .int v]) ht1
            refine ⟨d, _, rfl, DPut.t (k := kq (u, v)) F5.hd upd_same (by rw [kvs_len]; exact small1000 (by omega)), ?_⟩
            have F6 := F5.put hq
            have hb6 := (hb4.new (o := .tup [.int u, .int v]) ht1).put (o := .dT (putK (kvsOf (fun _ => .bl true) seen2) (kq (u, v)) (.bl true))) F5.hd
            generalize upd (upd H4 t1 (.tup [.int u, .int v])) d (.dT (putK (kvsOf (fun _ => .bl true) seen2) (kq (u, v)) (.bl true))) = H6 at F6 hb6 ⊢
            refine ⟨_, rfl, .inl ⟨rfl, _, SqL.of F6.hw⟩, ?_⟩
            refine ⟨_, rfl, _, rfl, by show 2 ≤ sizeLine; decide, fun t2 ht2 => ?_⟩
            have F7 := F6.new (o := .tup [.int u, .int v]) ht2
            have hb7 := hb6.new (o := .tup [.int u, .int v]) ht2
            have wl : ws.length = wait.length := Paired.length F7.pl
            have sl : wait.length ≤ 2 * 576 + 576 := by
              have := g.area
              simp only [List.length_append, List.length_singleton] at hm hm0
              have := L2.len hin
              omega
            refine ⟨wt, _, _, rfl, rfl, F7.hw, ?_, ?_⟩
            · rw [List.length_map, wl]
              show wait.length < sizeLine
              unfold sizeLine
              omega
            · refine ⟨seen2 ++ [(u, v)], wait ++ [(u, v)], ws ++ [t2], _, _, _, _, ?_, rfl, F7.push (PlAt.mk t2 H6), L3, hb7.push F7.hw⟩
              simp only [List.length_append, List.length_singleton] at hm l4 ⊢
              omega
        · refine ⟨seen2, wait, ws, _, _, _, _, hm, rfl, F2, L2.skip hnr fun hi hc => ?_, hb2⟩
          have : ((decide (0 ≤ u) && decide (u < (wd p : Int))) && ((decide (0 ≤ v) && decide (v < (hg p : Int))) && decide (cl p (u, v) = cl p (x, y)))) = true := by
            simp only [Bool.and_eq_true, decide_eq_true_eq]
            exact ⟨⟨hi.1, hi.2.1⟩, ⟨hi.2.2.1, hi.2.2.2⟩, hc⟩
          rw [this] at hb
          cases hb
      · rintro σ3 H3 ⟨seen2, wait, ws, v7, v8, v9, v10, hm, rfl, F2, L2, hb2⟩
        exact ⟨_, hm, seen2, wait, ws, _, _, _, _, _, by omega, rfl, rfl, F2, L2.end⟩
end
end Cf

set_option Elab.async false
set_option linter.all false
set_option maxRecDepth 100000
set_option maxHeartbeats 8000000
namespace Cf
open PySem PySem.Spec PyProof.Rows L2
/-! ### regions_of, region_at, border_of -/
theorem Tb.put {Pt t : Addr} {H : Hp} {o o' : HO} (T : Tb Pt H) (h : H t = some o') (n1 : ∀ ps, o' ≠ .tbl ps) (n2 : ∀ f, o' ≠ .ext f) : Tb Pt (upd H t o) := by
  intro q hq
  obtain ⟨ps, h1, h2, h3⟩ := T q hq
  refine ⟨ps, ?_, h2, fun pos cv hc => ?_⟩
  · rw [upd_ne fun z => by rw [z, h] at h1; exact n1 _ (Option.some.inj h1)]
    exact h1
  · obtain ⟨c, e, hc'⟩ := h3 pos cv hc
    refine ⟨c, e, ?_⟩
    rw [upd_ne fun z => by rw [z, h] at hc'; exact n2 _ (Option.some.inj hc')]
    exact hc'
theorem Tb.l {Pt t : Addr} {H : Hp} {o : HO} {xs : List V} (T : Tb Pt H) (h : H t = some (.lst xs)) : Tb Pt (upd H t o) := T.put h (fun _ z => nomatch z) (fun _ z => nomatch z)
theorem Tb.d {Pt t : Addr} {H : Hp} {o : HO} {xs : List (List Key × V)} (T : Tb Pt H) (h : H t = some (.dT xs)) : Tb Pt (upd H t o) := T.put h (fun _ z => nomatch z) (fun _ z => nomatch z)
theorem Tb.new {Pt t : Addr} {H : Hp} {o : HO} (T : Tb Pt H) (h : H t = none) : Tb Pt (upd H t o) := T.same (Same.new h)
theorem Fr.new {H : Hp} {p t : Addr} {o : HO} (h : Fr H p) (n : p ≠ t) : Fr (upd H t o) p := fun u e => h u (by rw [upd_ne n] at e; exact e)
theorem pls_get (w : Nat) : ∀ (h : Nat) {x y : Nat}, x < w → y < h → (pls w h)[y * w + x]? = some ((x : Int), (y : Int))
  | 0, _, _, _, h => absurd h (Nat.not_lt_zero _)
  | h + 1, x, y, hx, hy => by
    have e : pls w (h + 1) = pls w h ++ row w h := by
      unfold pls
      rw [List.range_succ, List.flatMap_append]
      simp
    rw [e]
    by_cases c : y < h
    · have hl : y * w + x < (pls w h).length := by
        rw [pls_len]
        calc y * w + x < y * w + w := by omega
          _ = (y + 1) * w := by rw [Nat.succ_mul]
          _ ≤ h * w := Nat.mul_le_mul_right _ c
      rw [List.getElem?_append_left hl]
      exact pls_get w h hx c
    · have e2 : y = h := by omega
      subst e2
      rw [List.getElem?_append_right (by rw [pls_len]; omega), pls_len, Nat.add_sub_cancel_left]
      unfold row
      simp [hx]
/-- a region in the heap: its pair, its list -/
structure RgAt (H : Hp) (p : Pic) (u : Addr × Addr) (s : Pl) : Prop where
  t : H u.1 = some (.tup [.int (cl p s), .ref u.2])
  l : ∃ cs, H u.2 = some (.lst (cs.map V.ref)) ∧ PlsAt H cs (reg p s)
theorem RgAt.xt {H H' : Hp} {p : Pic} {u : Addr × Addr} {s : Pl} (x : RgAt H p u s) (e : Xt H H') : RgAt H' p u s := by
  obtain ⟨cs, h1, h2⟩ := x.l
  exact ⟨e.t x.t, cs, e.l h1, h2.xt e⟩
theorem RgAt.upd {H : Hp} {p : Pic} {u : Addr × Addr} {s : Pl} (x : RgAt H p u s) {a : Addr} {o : HO} (n1 : ∀ b xs, H b = some (.tup xs) → b ≠ a) (n2 : u.2 ≠ a) : RgAt (upd H a o) p u s := by
  obtain ⟨cs, h1, h2⟩ := x.l
  exact ⟨by rw [upd_ne (n1 _ _ x.t)]; exact x.t, cs, by rw [upd_ne n2]; exact h1, PlsAt.upd h2 n1⟩
theorem cellB_cell {K : PySem.W.Frag} {H : Hp} {p : Pic} (g : Good p) {r : List Int} (hr : r ∈ p) : Paired (CellB K H 0 15) (r.map V.int) (r.map fun _ => true) := by
  have h : ∀ l : List Int, (∀ c ∈ l, (0 : Int) ≤ c ∧ c ≤ 15) → Paired (CellB K H 0 15) (l.map V.int) (l.map fun _ => true)
    := fun l => by
      induction l with
      | nil => exact fun _ => .nil
      | cons c l ih =>
        intro h
        refine .cons ?_ (ih fun d hd => h d (List.mem_cons_of_mem _ hd))
        have := h c List.mem_cons_self
        exact .inl ⟨c, rfl, by simp [this.1, this.2]⟩
  exact h r (g.cells r hr)
theorem all_true {α : Type} (l : List α) : (l.map fun _ => true).all id = true := by
  induction l with
  | nil => rfl
  | cons a l ih => simp
/-- a picture passes -/
theorem picB_of {K : PySem.W.Frag} {H : Hp} {a : Addr} {rs : List Addr} {p : Pic} (A : PicAt H a rs p) (g : Good p) : PicB K H (.ref a) true := by
  have len := A.len
  have h1 := g.h1
  have h2 := g.h2
  have hR : ∀ {bs : List Addr} {qs : List (List Int)}, (∀ r ∈ qs, r ∈ p) → Paired (fun b row => H b = some (.lst ((row : List Int).map V.int))) bs qs → Paired (RowB K H) (bs.map V.ref) (qs.map fun _ => true) := by
    intro bs qs hq hp
    induction hp with
    | nil => exact .nil
    | @cons b r bs qs h hp ih =>
      refine .cons (.inr ⟨b, _, _, rfl, h, ?_, cellB_cell g (hq r List.mem_cons_self), (all_true _).symm⟩) (ih fun r hr => hq r (List.mem_cons_of_mem _ hr))
      rw [List.length_map, g.rows r (hq r List.mem_cons_self)]
      have := g.w2
      omega
  have hL : ∀ {bs : List Addr} {qs : List (List Int)}, Paired (fun b row => H b = some (.lst ((row : List Int).map V.int))) bs qs → Paired (LenB H) (bs.map V.ref) (qs.map List.length) := by
    intro bs qs hp
    induction hp with
    | nil => exact .nil
    | cons h hp ih => exact .cons ⟨_, _, rfl, h, by rw [List.length_map]⟩ ih
  refine .inr ⟨a, _, rfl, A.o, by rw [List.length_map, len]; omega, .inr ⟨by rw [List.length_map, len]; exact h1, by rw [List.length_map, len]; exact h2, _, hR (fun _ h => h) A.r, .inr ⟨all_true _, _, hL A.r, ?_⟩⟩⟩
  obtain ⟨row, e1, e2⟩ := g.first
  have e3 : (p.map List.length).headD 0 = wd p := by
    cases p with
    | nil => simp at e1
    | cons r p => rfl
  rw [e3]
  have w1 := g.w1
  have w2 := g.w2
  simp [w1, w2]
  intro r hr
  exact g.rows r hr
/-- for place in places: d[place] = c -/
theorem for_put {K : PySem.W.Frag} {l d : Addr} {cs : List Addr} {qs seen : List Pl} {c : V} {dm pj : Nat} {te : TE} {D : Ends} {σ : L2.St} {H : Hp} (hl : H l = some (.lst (cs.map V.ref))) (hq : PlsAt H cs qs) (hd : H d = some (.dT (kvsOf (fun _ => c) seen)))
    (dis : ∀ q ∈ qs, q ∉ seen) (nd : qs.Nodup) (hlen : seen.length + qs.length ≤ 2000) (hdm : σ[dm]? = some (some (.ref d))) (hne : dm ≠ pj) (hpj : pj < σ.length) (hte : ∀ v H', Val te (σ.set pj v) H' c)
    (hD : ∀ σ', (σ' = σ ∨ ∃ v, σ' = σ.set pj (some v)) → D.nx σ' (upd H d (.dT (kvsOf (fun _ => c) (seen ++ qs))))) :
    ∃ W : Nat → Nat → L2.St → Hp → Prop, (∃ m, W 0 m σ H) ∧ ∀ i m σ H, W i m σ H →
      ((Itl K l).stop i H ∧ D.nx σ H) ∨ ((Itl K l).go i H ∧ ∃ N : L2.St → Hp → Prop, (∀ σ' H', N σ' H' → ∃ m', m' < m ∧ W (i + 1) m' σ' H') ∧ ∀ x H', (Itl K l).yld i H x H' → gName pj x σ H' fun σ2 H2 => sDPut (tVar dm) (tVar pj) te { D with nx := N, ct := N, bk := D.nx } σ2 H2) := by
  have nl : l ≠ d := fun z => by
    rw [z, hd] at hl
    cases hl
  refine for_list (xs := cs.map V.ref) (fun j σ' H' => (σ' = σ ∨ ∃ v, σ' = σ.set pj (some v)) ∧ H' = upd H d (.dT (kvsOf (fun _ => c) (seen ++ qs.take j)))) ⟨.inl rfl, ?_⟩ (fun j σ' H' _ h => SqL.of (by rw [h.2, upd_ne nl]; exact hl)) ?_ ?_
  · funext b
    by_cases hb : b = d
    · rw [hb, upd_same, hd]
      simp
    · rw [upd_ne hb]
  · rintro j x σ' H' hj ⟨hs, rfl⟩
    rw [List.getElem?_map] at hj
    cases e : cs[j]? with
    | none =>
      rw [e] at hj
      cases hj
    | some b =>
      rw [e] at hj
      obtain rfl : V.ref b = x := Option.some.inj hj
      obtain ⟨q, hq1, hq2⟩ := paired_at hq e
      have hq2 : H b = some (.tup [.int q.1, .int q.2]) := hq2
      have nb : b ≠ d := fun z => by
        rw [z, hd] at hq2
        cases hq2
      have es : σ'.set pj (some (V.ref b)) = σ.set pj (some (V.ref b)) := by
        rcases hs with rfl | ⟨v, rfl⟩
        · rfl
        · exact List.set_set _
      have hn : q ∉ seen ++ qs.take j := fun z => by
        rcases List.mem_append.mp z with z | z
        · exact dis q (List.mem_of_getElem? hq1) z
        · rw [List.mem_take_iff_getElem] at z
          obtain ⟨k, hk, ek⟩ := z
          rw [List.getElem?_eq_some_iff] at hq1
          obtain ⟨hj1, ej⟩ := hq1
          exact List.pairwise_iff_getElem.mp nd k j (by omega) hj1 (by omega) (ek.trans ej.symm)
      show sDPut (tVar dm) (tVar pj) te _ (σ'.set pj (some (V.ref b))) _
      rw [es]
      refine hte _ _ _ ⟨.ref d, ?_, .ref b, ?_, d, _, rfl, DPut.t (k := kq q) upd_same (by rw [upd_ne nb]; exact hq2) ?_, ?_⟩
      · rw [List.getElem?_set_ne (Ne.symm hne)]
        exact hdm
      · rw [List.getElem?_set_self hpj]
      · rw [kvs_len, List.length_append, List.length_take]
        unfold sizeLine
        omega
      · refine ⟨.inr ⟨_, rfl⟩, ?_⟩
        rw [upd_upd, putK_kvs (f := fun _ => c) hn, take_snoc hq1, List.append_assoc]
  · rintro σ' H' ⟨hs, rfl⟩
    have := hD σ' hs
    rw [List.length_map, Paired.length hq, List.take_length]
    exact this
theorem paired_extM {α β : Type} {F G : α → β → Prop} : ∀ {l : List α} {m : List β}, (∀ a ∈ l, ∀ b, F a b → G a b) → Paired F l m → Paired G l m
  | _, _, _, .nil => .nil
  | _, _, e, .cons r t => .cons (e _ List.mem_cons_self _ r) (paired_extM (fun a ha => e a (List.mem_cons_of_mem _ ha)) t)
theorem paired_mem {α β : Type} {F : α → β → Prop} : ∀ {l : List α} {m : List β} {a : α}, Paired F l m → a ∈ l → ∃ b, b ∈ m ∧ F a b
  | _, _, _, .nil, h => nomatch h
  | _, _, _, .cons r t, h => by
    rcases List.mem_cons.mp h with rfl | h
    · exact ⟨_, List.mem_cons_self, r⟩
    · obtain ⟨b, h1, h2⟩ := paired_mem t h
      exact ⟨b, List.mem_cons_of_mem _ h1, h2⟩
def spRegs (K : PySem.W.Frag) (CP Pt : Addr) : Sp := fun vs H Q E => (∃ x, vs = [x] ∧ PicB K H x false ∧ ∀ H', Same H H' → E (.ref CP) none H') ∨ ∃ a rs p, vs = [.ref a] ∧ Tb Pt H ∧ PicAt H a rs p ∧ Good p ∧
  ∀ (H2 : Hp) (l : Addr) (us : List (Addr × Addr)), Xt H H2 → Tb Pt H2 → Fr H l → H2 l = some (.lst (us.map fun u => V.ref u.1)) → Paired (RgAt H2 p) us (leads p (pls (wd p) (hg p))) → (us.map (·.2)).Nodup → (∀ u ∈ us, Fr H u.2 ∧ u.2 ≠ l) → Q (.ref l) H2
/-- the state at the i-th place -/
structure RW (Pt : Addr) (H0 : Hp) (d f : Addr) (p : Pic) (i : Nat) (H : Hp) : Prop where
  xt : Xt H0 H
  tb : Tb Pt H
  fd : Fr H0 d
  ff : Fr H0 f
  o : ∃ seen : List Pl, H d = some (.dT (kvsOf (fun _ => .bl true) seen)) ∧ seen.Nodup ∧ ∀ q, q ∈ seen ↔ ins p q ∧ Seen p ((pls (wd p) (hg p)).take i) q
  r : ∃ us, H f = some (.lst (us.map fun u : Addr × Addr => V.ref u.1)) ∧ Paired (RgAt H p) us (leads p ((pls (wd p) (hg p)).take i)) ∧ (us.map (·.2)).Nodup ∧ ∀ u ∈ us, Fr H0 u.2 ∧ u.2 ≠ f
theorem RW.new {Pt d f t : Addr} {H0 H : Hp} {p : Pic} {i : Nat} {o : HO} (R : RW Pt H0 d f p i H) (ht : H t = none) : RW Pt H0 d f p i (upd H t o) := by
  obtain ⟨seen, h1, h2⟩ := R.o
  obtain ⟨us, r1, r2, r3, r4⟩ := R.r
  exact ⟨R.xt.trans (Xt.new ht), R.tb.new ht, R.fd, R.ff, ⟨seen, by rw [upd_ne (ne_of_none h1 ht)]; exact h1, h2⟩, us, by rw [upd_ne (ne_of_none r1 ht)]; exact r1, paired_ext (fun _ _ q => q.xt (Xt.new ht)) r2, r3, r4⟩
theorem RW.led {Pt d f l : Addr} {H0 H H8 : Hp} {p : Pic} {i : Nat} {s : Pl} {cs : List Addr} {seen : List Pl} {us : List (Addr × Addr)} (R : RW Pt H0 d f p i H) (f8 : Fr H l) (x8 : Xt H H8) (t8 : Tb Pt H8) (h8 : H8 l = some (.lst (cs.map V.ref))) (p8 : PlsAt H8 cs (reg p s))
    (o1 : H d = some (.dT (kvsOf (fun _ => .bl true) seen))) (o2 : seen.Nodup) (o3 : ∀ q, q ∈ seen ↔ ins p q ∧ Seen p ((pls (wd p) (hg p)).take i) q) (r1 : H f = some (.lst (us.map fun u : Addr × Addr => V.ref u.1))) (r2 : Paired (RgAt H p) us (leads p ((pls (wd p) (hg p)).take i)))
    (r3 : (us.map (·.2)).Nodup) (r4 : ∀ u ∈ us, Fr H0 u.2 ∧ u.2 ≠ f) (hin : ins p s) (sn : ¬ Seen p ((pls (wd p) (hg p)).take i) s) (hi : (pls (wd p) (hg p))[i]? = some s) (dis : ∀ q ∈ reg p s, q ∉ seen) (tp : Addr) (htp : upd H8 d (.dT (kvsOf (fun _ => .bl true) (seen ++ reg p s))) tp = none) :
    RW Pt H0 d f p (i + 1) (upd (upd (upd H8 d (.dT (kvsOf (fun _ => .bl true) (seen ++ reg p s)))) tp (.tup [.int (cl p s), .ref l])) f (.lst ((us.map fun u : Addr × Addr => V.ref u.1) ++ [.ref tp]))) := by
  have o8 := x8.d o1
  have r8 := x8.l r1
  have nfd : f ≠ d := fun z => by
    rw [z, o1] at r1
    cases r1
  have nld : l ≠ d := fun z => by
    rw [z, o8] at h8
    cases h8
  have nlf : l ≠ f := Ne.symm (f8.nel r1)
  have f9 : upd H8 d (.dT (kvsOf (fun _ => .bl true) (seen ++ reg p s))) f = some (.lst (us.map fun u : Addr × Addr => V.ref u.1)) := by
    rw [upd_ne nfd]
    exact r8
  have l9 : upd H8 d (.dT (kvsOf (fun _ => .bl true) (seen ++ reg p s))) l = some (.lst (cs.map V.ref)) := by
    rw [upd_ne nld]
    exact h8
  have nft : f ≠ tp := ne_of_none f9 htp
  have nlt : l ≠ tp := ne_of_none l9 htp
  have td : ∀ b xs, H8 b = some (.tup xs) → b ≠ d := fun b xs hb z => by
    rw [z, o8] at hb
    cases hb
  have d9 : upd H8 d (.dT (kvsOf (fun _ => .bl true) (seen ++ reg p s))) d = some (.dT (kvsOf (fun _ => .bl true) (seen ++ reg p s))) := upd_same
  have p9 : PlsAt (upd H8 d (.dT (kvsOf (fun _ => .bl true) (seen ++ reg p s)))) cs (reg p s) := PlsAt.upd p8 td
  have q9 : Paired (RgAt (upd H8 d (.dT (kvsOf (fun _ => .bl true) (seen ++ reg p s)))) p) us (leads p ((pls (wd p) (hg p)).take i)) := paired_ext (fun u q r => (r.xt x8).upd td fun z => by
    obtain ⟨cs', z1, _⟩ := (r.xt x8).l
    rw [z, o8] at z1
    cases z1) r2
  have t9 : Tb Pt (upd H8 d (.dT (kvsOf (fun _ => .bl true) (seen ++ reg p s)))) := t8.d o8
  have x9 : Xt H0 (upd H8 d (.dT (kvsOf (fun _ => .bl true) (seen ++ reg p s)))) := (R.xt.trans x8).put R.fd
  revert htp f9 l9 d9 p9 q9 t9 x9
  generalize upd H8 d (.dT (kvsOf (fun _ => .bl true) (seen ++ reg p s))) = H9
  intro htp f9 l9 d9 p9 q9 t9 x9
  have f10 : upd H9 tp (.tup [.int (cl p s), .ref l]) f = some (.lst (us.map fun u : Addr × Addr => V.ref u.1)) := by
    rw [upd_ne nft]
    exact f9
  have tf : ∀ b xs, (upd H9 tp (.tup [.int (cl p s), .ref l])) b = some (.tup xs) → b ≠ f := fun b xs hb z => by
    rw [z, f10] at hb
    cases hb
  have hl : lead p s := (lead_iff hi).mpr sn
  have htk := take_snoc hi
  refine ⟨(x9.trans (Xt.new htp)).put R.ff, (t9.new htp).l f10, R.fd, R.ff, ⟨seen ++ reg p s, ?_, ?_, fun q => ?_⟩, us ++ [(tp, l)], ?_, ?_, ?_, fun u hu => ?_⟩
  · rw [upd_ne (Ne.symm nfd), upd_ne (ne_of_none d9 htp)]
    exact d9
  · exact List.nodup_append.mpr ⟨o2, reg_nodup _ _, fun a ha b hb z => dis b hb (z ▸ ha)⟩
  · rw [List.mem_append, o3, mem_reg, htk, seen_snoc]
    constructor
    · rintro (⟨h1, h2⟩ | ⟨h1, h2⟩)
      · exact ⟨h1, .inl h2⟩
      · exact ⟨h1, .inr h2⟩
    · rintro ⟨h1, h2 | h2⟩
      · exact .inl ⟨h1, h2⟩
      · exact .inr ⟨h1, h2⟩
  · rw [upd_same, List.map_append]
    rfl
  · rw [htk, leads_snoc_yes hl]
    refine paired_app (paired_extM (fun u hu q r => (r.xt (Xt.new htp)).upd tf (r4 u hu).2) q9) (.cons ⟨?_, cs, ?_, ?_⟩ .nil)
    · show upd _ f _ tp = _
      rw [upd_ne (Ne.symm nft), upd_same]
    · show upd _ f _ l = _
      rw [upd_ne nlf, upd_ne nlt]
      exact l9
    · exact PlsAt.upd (p9.xt (Xt.new htp)) tf
  · rw [List.map_append]
    refine List.nodup_append.mpr ⟨r3, by simp, fun a ha b hb z => ?_⟩
    simp only [List.map_cons, List.map_nil, List.mem_singleton] at hb
    obtain ⟨u, hu, rfl⟩ := List.mem_map.mp ha
    obtain ⟨q, _, r⟩ := paired_mem r2 hu
    obtain ⟨cs', z1, _⟩ := r.l
    exact f8.nel z1 (z.trans hb)
  · rcases List.mem_append.mp hu with hu | hu
    · exact r4 u hu
    · rw [List.mem_singleton] at hu
      subst hu
      exact ⟨Fr.back R.xt f8, nlf⟩
section
variable {P : Program} {w : World} {K : PySem.W.Frag} {mg : Str → Option Value} {base : Heap} {CP CO CF S a0 a1 a2 a3 c Pt : Addr}
theorem ok_regions_of (D : Df K mg "regions_of" s_regions_of) (T : Tx K mg CP CO CF S a0 a1 a2 a3) (c_need_picture : Cal P w K mg base (L2.CX P w) 5 "need_picture" ["picture"] (spNeedPic K CP)) (c_led_to : Cal P w K mg base CX0 5 "led_to" ["picture", "x", "y"] (spLedTo Pt)) :
    Cal P w K mg base (L2.CX P w) 6 "regions_of" ["picture"] (spRegs K CP Pt) := by
  refine calX_of D sc_regions_of (fun _ _ _ _ _ _ us hl => match us, hl with | [_], _ => rfl) (fun vs H Q E h => ?_) (fun f cdv A outer s H vs Q E hr h => ?_)
  · rcases h with ⟨x, rfl, _⟩ | ⟨a, rs, p, rfl, _⟩ <;> rfl
  · refine ⟨_, (pss_cons (ps_expr (pe_calX c_need_picture hr (by decide) (by rfl) (passes_call (takes_of rfl rfl rfl rfl) (fun _ _ _ _ h => h)) (pa_cons (pv 0) pa_nil)))
      (PSs.nox (pss_cons (ps_set (i := 1) sc_regions_of.nd rfl (by first | exact Or.inl rfl | exact Or.inr rfl) pe_dnewT)
      (pss_cons (ps_set (i := 2) sc_regions_of.nd rfl (by first | exact Or.inl rfl | exact Or.inr rfl) (pe_lst pa_nil))
      (pss_cons (ps_for PassesOwn.never rfl (pi_enum (by rfl) T.enumerate (pa_cons (pv 0) pa_nil)) (ptupK (K := K) rfl rfl (pgs_cons (pg_name (i := 3) sc_regions_of.nd rfl (by first | exact Or.inl rfl | exact Or.inr rfl)) (pgs_cons (pg_name (i := 4) sc_regions_of.nd rfl (by first | exact Or.inl rfl | exact Or.inr rfl)) pgs_nil)))
      (pss_one (ps_for PassesOwn.never rfl (pi_enum (by rfl) T.enumerate (pa_cons (pv 4) pa_nil)) (ptupK (K := K) rfl rfl (pgs_cons (pg_name (i := 5) sc_regions_of.nd rfl (by first | exact Or.inl rfl | exact Or.inr rfl)) (pgs_cons (pg_name (i := 6) sc_regions_of.nd rfl (by first | exact Or.inl rfl | exact Or.inr rfl)) pgs_nil)))
      (pss_one (ps_if (pt_cmp (pc_dnotin (hu_of hr) (pe_tup (pa_cons (pv 5) (pa_cons (pv 3) pa_nil))) (pv 1))) (pss_cons (ps_set (i := 7) sc_regions_of.nd rfl (by first | exact Or.inl rfl | exact Or.inr rfl) (pe_cal c_led_to hr (by decide) (by rfl) (pa_cons (pv 0) (pa_cons (pv 5) (pa_cons (pv 3) pa_nil)))))
      (pss_cons (ps_for PassesOwn.never rfl (pi_list (pv 7)) (pg_name (i := 8) sc_regions_of.nd rfl (by first | exact Or.inl rfl | exact Or.inr rfl))
      (pss_one (ps_dput (hu_of hr) (pv 1) (pv 8) pe_bl rfl)))
      (pss_one (ps_expr (pe_bm PySem.F.plainAttrs_list PySem.F.slot_list_append PySem.F.type_list_append mt_append (pv 2) (pa_cons (pe_tup (pa_cons (pv 6) (pa_cons (pv 7) pa_nil))) pa_nil)))))) pss_nil)))))
      (pss_one (ps_ret (pv 2)))))))), ?_⟩
    rcases h with ⟨x, rfl, hx, k⟩ | ⟨a, rs, p, rfl, tb, A1, g, k⟩
    · exact ⟨_, rfl, x, false, rfl, hx, fun H' e => ⟨fun z => (nomatch z), fun _ => k H' e⟩⟩
    · refine ⟨_, rfl, .ref a, true, rfl, picB_of A1 g, fun H' e => ⟨fun _ => ?_, fun z => (nomatch z)⟩⟩
      refine fun d hd => ?_
      refine ⟨by show 0 ≤ sizeLine; decide, fun fo hf => ?_⟩
      have x1 : Xt H H' := Same.xt e
      have tb1 := tb.same e
      have A2 := A1.xt x1
      have h1 := g.h1
      have w1 := g.w1
      have area := g.area
      have nfd : fo ≠ d := fun z => by
        rw [z, upd_same] at hf
        cases hf
      have hf' : H' fo = none := by
        rw [upd_ne nfd] at hf
        exact hf
      have R0 : RW Pt H' d fo p (0 * wd p) (upd (upd H' d (.dT [])) fo (.lst [])) := by
        refine ⟨(Xt.new hd).mut hf', (tb1.new hd).new hf, Fr.of hd, Fr.of hf', ⟨[], by rw [upd_ne (Ne.symm nfd), upd_same]; rfl, .nil, fun q => ?_⟩, [], upd_same, ?_, .nil, fun u hu => nomatch hu⟩
        · rw [Nat.zero_mul]
          constructor
          · intro z
            cases z
          · rintro ⟨_, s, hs, _⟩
            cases hs
        · rw [Nat.zero_mul]
          exact .nil
      revert R0
      generalize upd (upd H' d (.dT [])) fo (.lst []) = H1
      intro R0
      have A3 : PicAt H1 a rs p := A2.xt R0.xt
      refine ⟨_, rfl, a, _, rfl, SqL.of A3.o, ?_⟩
      refine for_it walk_enum (fun y σ' H2 => ∃ v3 v4 v5 v6 v7 v8, σ' = [some (.ref a), some (.ref d), some (.ref fo), v3, v4, v5, v6, v7, v8] ∧ RW Pt H' d fo p (y * wd p) H2) ⟨none, none, none, none, none, none, rfl, R0⟩
        (fun y σ' H2 _ h => by obtain ⟨_, _, _, _, _, _, _, R⟩ := h; exact SqL.of (A2.xt R.xt).o) ?_ ?_
      · rintro y it σ2 H2 H3 hy ⟨v3, v4, v5, v6, v7, v8, rfl, R⟩ ⟨t, _, x0, rfl, ht, rfl, q1, q2⟩
        obtain rfl := Option.some.inj q1
        have q2 : (rs.map V.ref)[y]? = some x0 := q2
        rw [List.length_map, A1.len] at hy
        obtain ⟨row, e1, e2⟩ := g.row hy
        obtain ⟨rb, e3, e4⟩ := (A2.xt R.xt).row e1
        rw [e3] at q2
        obtain rfl := Option.some.inj q2
        have R1 := R.new (o := .tup [.int (y : Nat), .ref rb]) ht
        refine ⟨t, _, rfl, SqT.of upd_same, rfl, _, _, rfl, _, _, rfl, rfl, ?_⟩
        have e5 : (upd H2 t (.tup [.int (y : Nat), .ref rb])) rb = some (.lst (row.map V.int)) := by
          rw [upd_ne (ne_of_none e4 ht)]
          exact e4
        refine ⟨_, rfl, rb, _, rfl, SqL.of e5, ?_⟩
        have hrb : H' rb = some (.lst (row.map V.int)) := by
          obtain ⟨rb', z1, z2⟩ := A2.row e1
          rw [e3] at z1
          obtain rfl := V.ref.inj (Option.some.inj z1)
          exact z2
        refine for_it walk_enum (fun x σ' H4 => ∃ v5 v6 v7 v8, σ' = [some (.ref a), some (.ref d), some (.ref fo), some (.int (y : Nat)), some (.ref rb), v5, v6, v7, v8] ∧ RW Pt H' d fo p (y * wd p + x) H4) ⟨v5, v6, v7, v8, rfl, R1⟩
          (fun x σ' H4 _ h => by obtain ⟨_, _, _, _, _, R⟩ := h; exact SqL.of (R.xt.l hrb)) ?_ ?_
        · rintro x it σ3 H4 H5 hx ⟨v5, v6, v7, v8, rfl, R⟩ ⟨t, _, x0, rfl, ht, rfl, q1, q2⟩
          obtain rfl := Option.some.inj q1
          have q2 : (row.map V.int)[x]? = some x0 := q2
          rw [List.length_map, e2] at hx
          have hc : row[x]? = some (cl p ((x : Int), (y : Int))) := by
            have : x < row.length := by omega
            rw [cl_at rfl rfl e1 (List.getElem?_eq_getElem this), List.getElem?_eq_getElem this]
          rw [List.getElem?_map, hc] at q2
          obtain rfl : V.int (cl p ((x : Int), (y : Int))) = x0 := Option.some.inj q2
          have R2 := R.new (o := .tup [.int (x : Nat), .int (cl p ((x : Int), (y : Int)))]) ht
          refine ⟨t, _, rfl, SqT.of upd_same, rfl, _, _, rfl, _, _, rfl, rfl, ?_⟩
          generalize upd H4 t (.tup [.int (x : Nat), .int (cl p ((x : Int), (y : Int)))]) = H6 at R2 ⊢
          have hi : (pls (wd p) (hg p))[y * wd p + x]? = some ((x : Int), (y : Int)) := pls_get _ _ hx hy
          have hin : ins p ((x : Int), (y : Int)) := mem_pls_ins.mp (List.mem_of_getElem? hi)
          have hld := lead_iff hi
          have htk : (pls (wd p) (hg p)).take (y * wd p + (x + 1)) = (pls (wd p) (hg p)).take (y * wd p + x) ++ [((x : Int), (y : Int))] := take_snoc hi
          refine ⟨_, rfl, _, rfl, by show 2 ≤ sizeLine; decide, fun t3 ht3 => ?_⟩
          have R3 := R2.new (o := .tup [.int (x : Nat), .int (y : Nat)]) ht3
          obtain ⟨seen, o1, o2, o3⟩ := R3.o
          refine ⟨_, rfl, d, _, rfl, DGet.t (k := kq ((x : Int), (y : Int))) o1 upd_same, _, rfl, ?_⟩
          rw [valV_kvs]
          generalize upd H6 t3 (.tup [.int (x : Nat), .int (y : Nat)]) = H7 at R3 o1 ⊢
          by_cases hq : ((x : Int), (y : Int)) ∈ seen
          · rw [if_pos hq]
            refine iteF ?_
            have sn := ((o3 _).mp hq).2
            refine ⟨_, _, _, _, rfl, R3.xt, R3.tb, R3.fd, R3.ff, ⟨seen, o1, o2, fun q => ?_⟩, ?_⟩
            · rw [o3, htk, seen_old sn]
            · obtain ⟨us, r⟩ := R3.r
              refine ⟨us, ?_⟩
              rw [htk, leads_snoc_no fun z => hld.mp z sn]
              exact r
          · rw [if_neg hq]
            refine iteT ?_
            have sn : ¬ Seen p ((pls (wd p) (hg p)).take (y * wd p + x)) ((x : Int), (y : Int)) := fun z => hq ((o3 _).mpr ⟨hin, z⟩)
            refine ⟨_, rfl, _, rfl, _, rfl, a, rs, p, (x : Int), (y : Int), rfl, R3.tb, A2.xt R3.xt, g, hin, fun H8 l cs x8 t8 f8 h8 p8 => ?_⟩
            obtain ⟨us, r1, r2, r3, r4⟩ := R3.r
            have o8 := x8.d o1
            have len1 : seen.length ≤ 576 := by
              have := nodup_len o2 fun q hq => mem_pls_ins.mpr ((o3 q).mp hq).1
              rw [pls_len] at this
              omega
            have len2 := reg_len p ((x : Int), (y : Int))
            have dis : ∀ q ∈ reg p ((x : Int), (y : Int)), q ∉ seen := fun q hq hs => by
              obtain ⟨_, s1, m1, m2⟩ := (o3 q).mp hs
              exact sn ⟨s1, m1, m2.trans ((mem_reg.mp hq).2.symm hin)⟩
            refine ⟨_, rfl, l, rfl, ⟨_, SqL.of h8⟩, ?_⟩
            refine for_put (c := .bl true) h8 p8 o8 dis (reg_nodup _ _) (by omega) rfl (by decide) (by show 8 < 9; decide) (fun _ _ => val_c) ?_
            rintro σ9 hs9
            obtain ⟨v8', rfl⟩ : ∃ v8', σ9 = [some (.ref a), some (.ref d), some (.ref fo), some (.int (y : Nat)), some (.ref rb), some (.int (x : Nat)), some (.int (cl p ((x : Int), (y : Int)))), some (.ref l), v8'] := by
              rcases hs9 with rfl | ⟨v, rfl⟩
              · exact ⟨_, rfl⟩
              · exact ⟨_, rfl⟩
            have R9 := R3.led f8 x8 t8 h8 p8 o1 o2 o3 r1 r2 r3 r4 hin sn hi dis
            have f9 : upd H8 d (.dT (kvsOf (fun _ => .bl true) (seen ++ reg p ((x : Int), (y : Int))))) fo = some (.lst (us.map fun u : Addr × Addr => V.ref u.1)) := by
              rw [upd_ne fun z => by rw [z, o1] at r1; cases r1]
              exact x8.l r1
            refine ⟨_, rfl, .inl ⟨rfl, _, SqL.of f9⟩, ?_⟩
            refine ⟨_, rfl, _, rfl, by show 2 ≤ sizeLine; decide, fun tp htp => ⟨fo, us.map fun u : Addr × Addr => V.ref u.1, _, rfl, rfl, ?_, ?_, ?_⟩⟩
            · rw [upd_ne (ne_of_none f9 htp)]
              exact f9
            · rw [List.length_map, Paired.length r2]
              have : (leads p ((pls (wd p) (hg p)).take (y * wd p + x))).length ≤ (pls (wd p) (hg p)).length := Nat.le_trans (List.length_filter_le _ _) (by rw [List.length_take]; omega)
              rw [pls_len] at this
              exact small1000 (by omega)
            · exact ⟨_, _, _, _, rfl, R9 tp htp⟩
        · rintro σ3 H4 ⟨v5, v6, v7, v8, rfl, R⟩
          rw [List.length_map, e2, ← Nat.succ_mul] at R
          exact ⟨_, _, _, _, _, _, rfl, R⟩
      · rintro σ2 H2 ⟨v3, v4, v5, v6, v7, v8, rfl, R⟩
        rw [List.length_map, A1.len] at R
        obtain ⟨us, r1, r2, r3, r4⟩ := R.r
        rw [List.take_of_length_le (by rw [pls_len]; omega)] at r2
        exact ⟨_, rfl, k H2 fo us (x1.trans R.xt) R.tb (Fr.back x1 R.ff) r1 r2 r3 fun u hu => ⟨Fr.back x1 (r4 u hu).1, (r4 u hu).2⟩⟩
end
end Cf

set_option Elab.async false
set_option linter.all false
set_option maxRecDepth 100000
set_option maxHeartbeats 8000000
namespace Cf
open PySem PySem.Spec PyProof.Rows L2
/-! ### region_at, border_of -/
def spRegAt (K : PySem.W.Frag) (CP CO Pt : Addr) : Sp := fun vs H Q E => (∃ x y z, vs = [x, y, z] ∧ PicB K H x false ∧ ∀ H', Same H H' → E (.ref CP) none H') ∨
  (∃ a rs p y z b c, vs = [.ref a, y, z] ∧ PicAt H a rs p ∧ Good p ∧ CellB K H 0 ((wd p : Int) - 1) y b ∧ CellB K H 0 ((hg p : Int) - 1) z c ∧ (b && c) = false ∧ ∀ H', Same H H' → E (.ref CO) none H') ∨
  ∃ (a : Addr) (rs : List Addr) (p : Pic) (x y : Int), vs = [.ref a, .int x, .int y] ∧ Tb Pt H ∧ PicAt H a rs p ∧ Good p ∧ ins p (x, y) ∧
    ∀ (H2 : Hp) (l : Addr) (cs : List Addr), Xt H H2 → Tb Pt H2 → Fr H l → H2 l = some (.lst (cs.map V.ref)) → PlsAt H2 cs (reg p (x, y)) → Q (.ref l) H2
/-! data -/
def dPl (q : Pl) : PyData := .tuple [.int q.1, .int q.2]
def dPls (l : List Pl) : PyData := .list (l.map dPl)
def Sh (n : Nat) (d : PyData) : Prop := d.canLay0 = true ∧ d.depth ≤ n
theorem sh_all {n : Nat} : ∀ {ds : List PyData}, (∀ d ∈ ds, Sh n d) → PyData.canLayAll0 ds = true ∧ PyData.depthAll ds ≤ n
  | [], _ => ⟨rfl, Nat.zero_le _⟩
  | d :: ds, h => by
    have h1 := h d List.mem_cons_self
    have h2 := sh_all fun e he => h e (List.mem_cons_of_mem _ he)
    refine ⟨?_, ?_⟩
    · simp only [PyData.canLayAll0, h1.1, h2.1, Bool.and_true]
    · simp only [PyData.depthAll]
      exact Nat.max_le.mpr ⟨h1.2, h2.2⟩
theorem Sh.list {n : Nat} {ds : List PyData} (h : ∀ d ∈ ds, Sh n d) : Sh (n + 1) (.list ds) := by
  have := sh_all h
  refine ⟨?_, ?_⟩
  · simp only [PyData.canLay0, this.1]
  · simp only [PyData.depth]
    omega
theorem Sh.tuple {n : Nat} {ds : List PyData} (h : ∀ d ∈ ds, Sh n d) : Sh (n + 1) (.tuple ds) := by
  have := sh_all h
  refine ⟨?_, ?_⟩
  · simp only [PyData.canLay0, this.1]
  · simp only [PyData.depth]
    omega
theorem Sh.int (i : Int) : Sh 0 (.int i) := ⟨by simp only [PyData.canLay0], by simp only [PyData.depth]; omega⟩
theorem Sh.mono {n m : Nat} {d : PyData} (h : Sh n d) (k : n ≤ m) : Sh m d := ⟨h.1, Nat.le_trans h.2 k⟩
theorem Sh.shaped {n : Nat} {d : PyData} (h : Sh n d) (k : n ≤ 64) : SeqAt.shaped d = true := by
  unfold SeqAt.shaped
  rw [h.1, decide_eq_true (Nat.le_trans h.2 k)]
  rfl
theorem sh_pl (q : Pl) : Sh 1 (dPl q) := Sh.tuple fun d hd => by
  simp only [List.mem_cons, List.not_mem_nil, or_false] at hd
  rcases hd with rfl | rfl <;> exact Sh.int _
theorem sh_pls (l : List Pl) : Sh 2 (dPls l) := Sh.list fun d hd => by
  obtain ⟨q, _, rfl⟩ := List.mem_map.mp hd
  exact sh_pl q
theorem eqv_pl (q r : Pl) : PyData.eqv (dPl q) (dPl r) = decide (q = r) := by
  obtain ⟨a, b⟩ := q
  obtain ⟨c, d⟩ := r
  simp only [dPl, PyData.eqv, PyData.eqvAll, Bool.and_true, Prod.mk.injEq]
  rw [Bool.decide_and]
  rfl
theorem any_pl (l : List Pl) (q : Pl) : ((l.map dPl).any fun z => PyData.eqv z (dPl q)) = decide (q ∈ l) := by
  induction l with
  | nil => simp
  | cons r l ih =>
    rw [List.map_cons, List.any_cons, ih, eqv_pl]
    by_cases h : r = q
    · simp [h]
    · have h' : ¬ q = r := fun z => h z.symm
      simp [h, h']
section
variable {K : PySem.W.Frag} {H : Hp}
theorem dp_pl {b : Addr} {q : Pl} (h : PlAt H b q) : Dp K H (.ref b) (dPl q) := .tup (SqT.of h) (.cons (.int _) (.cons (.int _) .nil))
theorem dp_all {bs : List Addr} {qs : List Pl} (h : PlsAt H bs qs) : DpAll K H (bs.map V.ref) (qs.map dPl) := by
  induction h with
  | nil => exact .nil
  | cons r t ih => exact .cons (dp_pl r) ih
theorem dp_pls {a : Addr} {bs : List Addr} {qs : List Pl} (ha : H a = some (.lst (bs.map V.ref))) (h : PlsAt H bs qs) : Dp K H (.ref a) (dPls qs) := .lst (SqL.of ha) (dp_all h)
end
/-! borders -/
def bcnt (f : Pl → Bool) (l : List Pl) : Nat := (l.map fun q => (near q).countP f).sum
def border (qs : List Pl) : Nat := bcnt (fun r => !decide (r ∈ qs)) qs
theorem bcnt_snoc (f : Pl → Bool) (l : List Pl) (q : Pl) : bcnt f (l ++ [q]) = bcnt f l + (near q).countP f := by
  unfold bcnt
  rw [List.map_append, List.sum_append]
  simp
theorem countP_snoc (f : Pl → Bool) (l : List Pl) (q : Pl) : (l ++ [q]).countP f = l.countP f + (if f q = true then 1 else 0) := by
  rw [List.countP_append, List.countP_singleton]
def spBorder (K : PySem.W.Frag) : Sp := fun vs H Q _ => ∃ (a : Addr) (bs : List Addr) (qs : List Pl), vs = [.ref a] ∧ H a = some (.lst (bs.map V.ref)) ∧ PlsAt H bs qs ∧ qs.length ≤ 1000 ∧ ∀ H', Same H H' → Q (.int (border qs : Nat)) H'
section
variable {P : Program} {w : World} {K : PySem.W.Frag} {mg : Str → Option Value} {base : Heap} {CP CO CF S a0 a1 a2 a3 c Pt : Addr}
theorem ok_region_at (D : Df K mg "region_at" s_region_at) (T : Tx K mg CP CO CF S a0 a1 a2 a3) (c_need_picture : Cal P w K mg base (L2.CX P w) 5 "need_picture" ["picture"] (spNeedPic K CP)) (c_need_place : Cal P w K mg base (L2.CX P w) 2 "need_place" ["picture", "x", "y"] (spNeedPlace K CO))
    (c_led_to : Cal P w K mg base CX0 5 "led_to" ["picture", "x", "y"] (spLedTo Pt)) : Cal P w K mg base (L2.CX P w) 6 "region_at" ["picture", "x", "y"] (spRegAt K CP CO Pt) := by
  refine calX_of D sc_region_at (fun _ _ _ _ _ _ us hl => match us, hl with | [_, _, _], _ => rfl) (fun vs H Q E h => ?_) (fun f cdv A outer s H vs Q E hr h => ?_)
  · rcases h with ⟨x, y, z, rfl, _⟩ | ⟨a, rs, p, y, z, b, c, rfl, _⟩ | ⟨a, rs, p, x, y, rfl, _⟩ <;> rfl
  · refine ⟨_, (pss_cons (ps_expr (pe_calX c_need_picture hr (by decide) (by rfl) (passes_call (takes_of rfl rfl rfl rfl) (fun _ _ _ _ h => h)) (pa_cons (pv 0) pa_nil)))
      (pss_cons (ps_expr (pe_calX c_need_place hr (by decide) (by rfl) (passes_call (takes_of rfl rfl rfl rfl) (fun _ _ _ _ h => h)) (pa_cons (pv 0) (pa_cons (pv 1) (pa_cons (pv 2) pa_nil)))))
      (PSs.nox (pss_one (ps_ret (pe_cal c_led_to hr (by decide) (by rfl) (pa_cons (pv 0) (pa_cons (pv 1) (pa_cons (pv 2) pa_nil))))))))), ?_⟩
    rcases h with ⟨x, y, z, rfl, hx, k⟩ | ⟨a, rs, p, y, z, b, c, rfl, A1, g, hb, hc, bc, k⟩ | ⟨a, rs, p, x, y, rfl, tb, A1, g, hin, k⟩
    · exact ⟨_, rfl, x, false, rfl, hx, fun H' e => ⟨fun z => (nomatch z), fun _ => k H' e⟩⟩
    · refine ⟨_, rfl, .ref a, true, rfl, picB_of A1 g, fun H' e => ⟨fun _ => ?_, fun z => (nomatch z)⟩⟩
      exact ⟨_, rfl, _, rfl, _, rfl, a, rs, p, y, z, b, c, rfl, A1.xt (Same.xt e), g, hb.ext e, hc.ext e, fun z => (by rw [bc] at z; cases z), fun _ => k H' e⟩
    · refine ⟨_, rfl, .ref a, true, rfl, picB_of A1 g, fun H' e => ⟨fun _ => ?_, fun z => (nomatch z)⟩⟩
      have h1 := hin.1
      have h2 := hin.2.1
      have h3 := hin.2.2.1
      have h4 := hin.2.2.2
      simp only at h1 h2 h3 h4
      refine ⟨_, rfl, _, rfl, _, rfl, a, rs, p, .int x, .int y, true, true, rfl, A1.xt (Same.xt e), g, .inl ⟨x, rfl, ?_⟩, .inl ⟨y, rfl, ?_⟩, fun _ => ?_, fun z => (nomatch z)⟩
      · rw [decide_eq_true h1, decide_eq_true (by omega)]
        rfl
      · rw [decide_eq_true h3, decide_eq_true (by omega)]
        rfl
      · exact ⟨_, rfl, _, rfl, _, rfl, a, rs, p, x, y, rfl, tb.same e, A1.xt (Same.xt e), g, hin, fun H2 l cs x2 t2 f2 l2 p2 => k H2 l cs ((Same.xt e).trans x2) t2 (Fr.back (Same.xt e) f2) l2 p2⟩
theorem ok_border_of (D : Df K mg "border_of" s_border_of) (T : Tx K mg CP CO CF S a0 a1 a2 a3) : Cal P w K mg base CX0 1 "border_of" ["places"] (spBorder K) := by
  refine cal_of D sc_border_of (fun _ _ _ _ _ _ us hl => match us, hl with | [_], _ => rfl) (fun vs H Q E h => ?_) (fun f cdv A outer s H vs Q E hr h => ?_)
  · obtain ⟨a, bs, qs, rfl, _⟩ := h
    rfl
  · obtain ⟨a, bs, qs, rfl, ha, hp, hl, k⟩ := h
    refine ⟨_, (pss_cons (ps_set (i := 1) sc_border_of.nd rfl (by first | exact Or.inl rfl | exact Or.inr rfl) pe_int)
      (pss_cons (ps_for PassesOwn.never rfl (pi_list (pv 0)) (ptupK (K := K) rfl rfl (pgs_cons (pg_name (i := 2) sc_border_of.nd rfl (by first | exact Or.inl rfl | exact Or.inr rfl)) (pgs_cons (pg_name (i := 3) sc_border_of.nd rfl (by first | exact Or.inl rfl | exact Or.inr rfl)) pgs_nil)))
      (pss_one (ps_for PassesOwn.never rfl (pi_tup (C8.pe_gc rfl T.gSIDES)) (ptupK (K := K) rfl rfl (pgs_cons (pg_name (i := 4) sc_border_of.nd rfl (by first | exact Or.inl rfl | exact Or.inr rfl)) (pgs_cons (pg_name (i := 5) sc_border_of.nd rfl (by first | exact Or.inl rfl | exact Or.inr rfl)) pgs_nil)))
      (pss_one (ps_if (pt_cmpR (ninK (K := K) rfl (hu65 hr)) (pe_tup (pa_cons (pe_op op_add (pv 2) (pv 4)) (pa_cons (pe_op op_add (pv 3) (pv 5)) pa_nil))) (pv 0) (by rfl)) (pss_one (ps_aug (i := 1) sc_border_of.nd rfl (by first | exact Or.inl rfl | exact Or.inr rfl) pe_int ip_add)) pss_nil)))))
      (pss_one (ps_ret (pv 1))))), ?_⟩
    refine ⟨_, rfl, a, rfl, ⟨_, SqL.of ha⟩, ?_⟩
    refine for_list (fun i σ' H' => ∃ v2 v3 v4 v5, σ' = [some (.ref a), some (.int (bcnt (fun r => !decide (r ∈ qs)) (qs.take i) : Nat)), v2, v3, v4, v5] ∧ Same H H') ⟨none, none, none, none, rfl, fun _ _ h => h⟩
      (fun i σ' H' _ h => by obtain ⟨_, _, _, _, _, e⟩ := h; exact SqL.of (e _ _ ha)) ?_ ?_
    · rintro i x σ' H' hi ⟨v2, v3, v4, v5, rfl, e⟩
      rw [List.getElem?_map] at hi
      obtain ⟨b, hb, rfl⟩ := Option.map_eq_some_iff.mp hi
      obtain ⟨q, hq, hbq⟩ := paired_at hp hb
      have hbq' := e _ _ hbq
      refine ⟨b, _, rfl, SqT.of hbq', rfl, _, _, rfl, _, _, rfl, rfl, ?_⟩
      refine ⟨S, rfl, ⟨_, T.sides H'⟩, ?_⟩
      refine for_tup (fun j σ' H' => ∃ v4 v5, σ' = [some (.ref a), some (.int (bcnt (fun r => !decide (r ∈ qs)) (qs.take i) + ((near q).take j).countP (fun r => !decide (r ∈ qs)) : Nat)), some (.int q.1), some (.int q.2), v4, v5] ∧ Same H H')
        ⟨v4, v5, rfl, e⟩ (fun i σ H _ _ => T.sides H) ?_ ?_
      · rintro j it σ3 H3 hj ⟨v4, v5, rfl, e3⟩
        obtain ⟨aj, dx, dy, rfl, hs, hnr⟩ := side_at T hj
        have hnr := hnr q
        refine ⟨aj, _, rfl, hs H3, rfl, _, _, rfl, _, _, rfl, rfl, ?_⟩
        refine ⟨_, rfl, _, rfl, _, _, rfl, rfl, _, rfl, _, rfl, _, _, rfl, rfl, by show 2 ≤ sizeLine; decide, fun t ht => ?_⟩
        have e4 : Same H (upd H3 t (.tup [.int (q.1 + dx), .int (q.2 + dy)])) := Same.mut e3 (Same.free e3 ht)
        refine ⟨_, rfl, dPl (q.1 + dx, q.2 + dy), qs.map dPl, dp_pl (PlAt.mk t H3), dp_pls (e4 _ _ ha) (PlsAt.same hp e4), (sh_pl _).shaped (by decide), (sh_pls qs).shaped (by decide), _, rfl, ?_⟩
        rw [any_pl]
        have ht := take_snoc hnr
        by_cases c : (q.1 + dx, q.2 + dy) ∈ qs
        · rw [decide_eq_true c]
          refine iteF ?_
          refine ⟨some (.int dx), some (.int dy), ?_, e4⟩
          rw [ht, countP_snoc, decide_eq_true c]
          rfl
        · rw [decide_eq_false c]
          refine iteT ?_
          refine ⟨_, rfl, _, _, rfl, rfl, ?_⟩
          refine ⟨some (.int dx), some (.int dy), ?_, e4⟩
          rw [ht, countP_snoc, decide_eq_false c]
          rfl
      · rintro σ3 H3 ⟨v4, v5, rfl, e3⟩
        refine ⟨some (.int q.1), some (.int q.2), v4, v5, ?_, e3⟩
        rw [take_snoc hq, bcnt_snoc]
        rfl
    · rintro σ' H' ⟨v2, v3, v4, v5, rfl, e⟩
      rw [List.length_map, Paired.length hp, List.take_length]
      exact ⟨_, rfl, k H' e⟩
end
end Cf

set_option Elab.async false
set_option linter.all false
set_option maxRecDepth 100000
set_option maxHeartbeats 8000000
namespace Cf
open PySem PySem.Spec PyProof.Rows L2
/-! ### the law's small functions -/
theorem SqL.xt {K : PySem.W.Frag} {H H' : Hp} {a : Addr} {xs : List V} (h : SqL K H a xs) (e : Xt H H') : SqL K H' a xs :=
  h.elim (fun h => .inl (h.elim (fun h => .inl (e.l h)) fun ⟨o, h⟩ => .inr ⟨o, e _ _ h fun _ z => nomatch z⟩)) fun h => .inr h
/-- the script -/
structure Scr (K : PySem.W.Frag) (H : Hp) (a : Addr) (xs : List Int) : Prop where
  o : SqL K H a (xs.map V.int)
  b : ∀ x ∈ xs, Builtin.Int.intBits x ≤ 1048576
theorem Scr.xt {K : PySem.W.Frag} {H H' : Hp} {a : Addr} {xs : List Int} (x : Scr K H a xs) (e : Xt H H') : Scr K H' a xs := ⟨SqL.xt x.o e, x.b⟩
theorem mul_ok {a b : Int} (ha : Builtin.Int.intBits a ≤ 2000000) (hb : Builtin.Int.intBits b ≤ 2000000) : IntMulOk a b := by
  have e : bitsLine = 134217728 := by decide
  unfold IntMulOk Builtin.Int.intTooBig
  rw [e]
  simp only [Bool.and_eq_true, decide_eq_true_eq]
  omega
theorem bits_small {n : Int} (h : n.natAbs < 2 ^ 64) : Builtin.Int.intBits n ≤ 64 := intBits_le_iff.mpr h
theorem mixed_range (u : Int) : Builtin.Int.intBits (u * u % 1000000007) ≤ 64 ∧ 0 ≤ u * u % 1000000007 * u % 998244353 / 11 ∧ u * u % 1000000007 * u % 998244353 / 11 ≤ 90749486 := by
  have h1 := Int.emod_nonneg (u * u) (show (1000000007 : Int) ≠ 0 by decide)
  have h2 := Int.emod_lt_of_pos (u * u) (show (0 : Int) < 1000000007 by decide)
  have h3 := Int.emod_nonneg (u * u % 1000000007 * u) (show (998244353 : Int) ≠ 0 by decide)
  have h4 := Int.emod_lt_of_pos (u * u % 1000000007 * u) (show (0 : Int) < 998244353 by decide)
  refine ⟨bits_small (Nat.lt_of_lt_of_le (show (u * u % 1000000007).natAbs < 1000000007 by omega) (by decide)), ?_, ?_⟩
  · omega
  · omega
def spCellL (K : PySem.W.Frag) : Sp := fun vs H Q _ => ∃ a xs k, vs = [.ref a, .int k] ∧ Scr K H a xs ∧ 0 ≤ k ∧ ∀ n, Builtin.Int.intBits n ≤ 1048576 → Q (.int n) H
def spMixed (K : PySem.W.Frag) : Sp := fun vs H Q _ => ∃ a xs k, vs = [.ref a, .int k] ∧ Scr K H a xs ∧ 0 ≤ k ∧ k ≤ 1000 ∧ ∀ n : Int, 0 ≤ n → n ≤ 90749486 → Q (.int n) H
def spWhole : Sp := fun vs H Q _ => ∃ i, vs = [.int i] ∧ Q (.bl true) H
def spCopied : Sp := fun vs H Q _ => ∃ a rs p, vs = [.ref a] ∧ PicAt H a rs p ∧ Good p ∧ ∀ H' l rs', Same H H' → PicAt H' l rs' p → Q (.ref l) H'
def spBeside : Sp := fun vs H Q _ => ∃ a q, vs = [.ref a] ∧ PlAt H a q ∧ ∀ H' l bs, Same H H' → H' l = some (.lst (bs.map V.ref)) → H l = none → PlsAt H' bs (near q) → Q (.ref l) H'
def spRises : Sp := fun vs H Q _ => ∃ a bs qs, vs = [.ref a] ∧ H a = some (.lst (bs.map V.ref)) ∧ PlsAt H bs qs ∧ qs.Pairwise Bf ∧ qs.length ≤ 1000 ∧ ∀ H', Same H H' → Q (.bl true) H'
section
variable {P : Program} {w : World} {K : PySem.W.Frag} {mg : Str → Option Value} {base : Heap} {CP CO CF S a0 a1 a2 a3 c Pt : Addr}
theorem ok_l_cell (D : Df K mg "_law_cell" s_l_cell) (T : Tx K mg CP CO CF S a0 a1 a2 a3) : Cal P w K mg base CX0 1 "_law_cell" ["_law_script", "_law_k"] (spCellL K) := by
  refine cal_of D sc_l_cell (fun _ _ _ _ _ _ us hl => match us, hl with | [_, _], _ => rfl) (fun vs H Q E h => ?_) (fun f cdv A outer s H vs Q E hr h => ?_)
  · obtain ⟨a, xs, k, rfl, _⟩ := h
    rfl
  · obtain ⟨a, xs, k, rfl, hs, hk, q⟩ := h
    refine ⟨_, (pss_cons (ps_if (pt_cmpR op_lt (pv 1) (pe_callB (lenK (K := K) rfl) (by rfl) T.len PySem.boot_len (pa_cons (pv 0) pa_nil)) (nomark _)) (pss_one (ps_ret (pe_ix (ixL (K := K) rfl) (pv 0) (pv 1) (fun _ _ => rfl)))) pss_nil)
      (pss_one (ps_ret pe_int))), ?_⟩
    refine ⟨_, rfl, _, rfl, _, xs.length, rfl, .inl ⟨_, hs.o, by rw [List.length_map]⟩, _, _, rfl, rfl, _, rfl, ?_⟩
    by_cases h : k < (xs.length : Nat)
    · rw [decide_eq_true h]
      refine iteT ?_
      have hk' : k.toNat < xs.length := by omega
      refine ⟨_, rfl, _, rfl, _, _, _, _, rfl, rfl, hs.o, ?_, q _ (hs.b _ (List.getElem_mem hk'))⟩
      have e : k = (k.toNat : Int) := (Int.toNat_of_nonneg hk).symm
      have z : atI (xs.map V.int) (k.toNat : Int) = some (.int xs[k.toNat]) := atI_nat (by
        rw [List.getElem?_map, List.getElem?_eq_getElem hk']
        rfl)
      rw [← e] at z
      exact z
    · rw [decide_eq_false h]
      refine iteF ?_
      exact q 0 (by decide)
theorem ok_l_mixed (D : Df K mg "_law_mixed" s_l_mixed) (T : Tx K mg CP CO CF S a0 a1 a2 a3) (c_l_cell : Cal P w K mg base CX0 1 "_law_cell" ["_law_script", "_law_k"] (spCellL K)) : Cal P w K mg base CX0 2 "_law_mixed" ["_law_script", "_law_k"] (spMixed K) := by
  refine cal_of D sc_l_mixed (fun _ _ _ _ _ _ us hl => match us, hl with | [_, _], _ => rfl) (fun vs H Q E h => ?_) (fun f cdv A outer s H vs Q E hr h => ?_)
  · obtain ⟨a, xs, k, rfl, _⟩ := h
    rfl
  · obtain ⟨a, xs, k, rfl, hs, hk, hk2, q⟩ := h
    refine ⟨_, (pss_cons (ps_set (i := 2) sc_l_mixed.nd rfl (by first | exact Or.inl rfl | exact Or.inr rfl) (pe_op op_add (pe_op op_add (pe_cal c_l_cell hr (by decide) (by rfl) (pa_cons (pv 0) (pa_cons (pv 1) pa_nil))) (pe_op op_mulS pe_int (pv 1))) pe_int))
      (pss_one (ps_ret (pe_op op_fdiv (pe_op op_mod (pe_op op_mulS (pe_op op_mod (pe_op op_mulS (pv 2) (pv 2)) pe_int) (pv 2)) pe_int) pe_int)))), ?_⟩
    refine ⟨_, rfl, _, rfl, a, xs, k, rfl, hs, hk, fun n hn => ?_⟩
    have b7 : Builtin.Int.intBits 7919 ≤ 64 := by decide
    have bk : Builtin.Int.intBits k ≤ 64 := bits_small (Nat.lt_of_le_of_lt (show k.natAbs ≤ 1000 by omega) (by decide))
    have b8 : Builtin.Int.intBits (7919 * k) ≤ 64 := bits_small (Nat.lt_of_le_of_lt (show (7919 * k).natAbs ≤ 7919000 by omega) (by decide))
    refine ⟨_, rfl, _, _, rfl, rfl, mul_ok (by omega) (by omega), _, _, rfl, rfl, _, _, rfl, rfl, ?_⟩
    have b9 : Builtin.Int.intBits (n + 7919 * k + 13) ≤ 1048578 := by
      have z1 := intBits_add_le hn b8
      have z2 := intBits_add_le z1 (show Builtin.Int.intBits 13 ≤ 64 by decide)
      omega
    obtain ⟨m1, m2, m3⟩ := mixed_range (n + 7919 * k + 13)
    exact ⟨_, rfl, _, rfl, _, _, rfl, rfl, mul_ok (by exact Nat.le_trans b9 (by decide)) (by exact Nat.le_trans b9 (by decide)), _, _, rfl, rfl, (by decide : (0 : Int) < 1000000007), _, rfl, _, _, rfl, rfl, mul_ok (by exact Nat.le_trans m1 (by decide)) (by exact Nat.le_trans b9 (by decide)), _, _, rfl, rfl, (by decide : (0 : Int) < 998244353), _, _, rfl, rfl, ⟨(by decide : (0 : Int) < 11), by decide⟩, q _ m2 m3⟩
theorem ok_l_whole (D : Df K mg "_law_whole" s_l_whole) (T : Tx K mg CP CO CF S a0 a1 a2 a3) : Cal P w K mg base CX0 1 "_law_whole" ["_law_found"] spWhole := by
  refine cal_of D sc_l_whole (fun _ _ _ _ _ _ us hl => match us, hl with | [_], _ => rfl) (fun vs H Q E h => ?_) (fun f cdv A outer s H vs Q E hr h => ?_)
  · obtain ⟨i, rfl, _⟩ := h
    rfl
  · obtain ⟨i, rfl, q⟩ := h
    refine ⟨_, (pss_one (ps_ret (pe_and (pe_callB (isiK (K := K) rfl) (by rfl) T.isinstance (by decide +kernel) (pa_cons (pv 0) (pa_cons (pe_bltn (v := .ty "int") (by rfl) T.int (by decide +kernel) rfl) pa_nil))) (pe_one (pe_not (pe_callB (isiK (K := K) rfl) (by rfl) T.isinstance (by decide +kernel) (pa_cons (pv 0) (pa_cons (pe_bltn (v := .ty "bool") (by rfl) T.bool (by decide +kernel) rfl) pa_nil)))))))), ?_⟩
    refine ⟨_, rfl, _, _, _, _, true, rfl, .ty _, .base (.int i), kit_ty (by decide +kernel), true, rfl, iteT ?_⟩
    refine ⟨_, rfl, _, _, _, _, false, rfl, .ty _, .base (.int i), kit_ty (by decide +kernel), false, rfl, ?_⟩
    exact q
theorem ok_l_copied (D : Df K mg "_law_copied" s_l_copied) (T : Tx K mg CP CO CF S a0 a1 a2 a3) : Cal P w K mg base CX0 1 "_law_copied" ["_law_picture_here"] spCopied := by
  refine cal_of D sc_l_copied (fun _ _ _ _ _ _ us hl => match us, hl with | [_], _ => rfl) (fun vs H Q E h => ?_) (fun f cdv A outer s H vs Q E hr h => ?_)
  · obtain ⟨a, rs, p, rfl, _⟩ := h
    rfl
  · obtain ⟨a, rs, p, rfl, A1, g, k⟩ := h
    refine ⟨_, (pss_one (ps_ret (pe_lc (own := [("_law_row", 1)]) (g := gName 1) (tt := tYes) rfl sc_l_copied.nd (pi_list (pv 0)) (blkOk_by (N := N_l_copied) (sc := defScope s_l_copied) (by decide +kernel)) (fun _ _ _ _ _ => (pg_name (i := 1) sc_l_copied.nd rfl (by first | exact Or.inl rfl | exact Or.inr rfl))) (fun _ _ _ _ _ => pts_nil) (fun _ _ _ _ _ => (pe_callTy (lstK (K := K) rfl) (by rfl) T.list (by decide +kernel) (pa_cons (pv 1) pa_nil)))))), ?_⟩
    refine ⟨_, rfl, a, rfl, ⟨_, SqL.of A1.o⟩, fun Dl hD => ?_⟩
    refine lc_list (K := K) (xs := rs.map V.ref) (fun i H' => Same H H' ∧ ∃ ls, H' Dl = some (.lst (ls.map V.ref)) ∧ Paired (fun b row => b ≠ Dl ∧ H' b = some (.lst ((row : List Int).map V.int))) ls (p.take i)) ⟨Same.new hD, [], upd_same, .nil⟩
      (fun i H' _ h => SqL.of (h.1 _ _ A1.o)) ?_ ?_
    · rintro i x H' hi ⟨e, ls, h1, h2⟩
      rw [List.getElem?_map] at hi
      obtain ⟨b, hb, rfl⟩ := Option.map_eq_some_iff.mp hi
      obtain ⟨row, hr1, hr2⟩ := paired_at A1.r hb
      refine ⟨rfl, tyes_go ?_⟩
      refine ⟨_, rfl, _, _, rfl, .inl (SqL.of (e _ _ hr2)), fun t ht => ?_⟩
      have hl : (upd H' t (.lst (row.map V.int))) Dl = some (.lst (ls.map V.ref)) := by
        rw [upd_ne (ne_of_none h1 ht)]
        exact h1
      have nt : t ≠ Dl := Ne.symm (ne_of_none h1 ht)
      refine ⟨ls.map V.ref, hl, ?_, Same.mut (Same.mut e (Same.free e ht)) hD, ls ++ [t], ?_, ?_⟩
      · rw [List.length_map, Paired.length h2, List.length_take]
        have := g.h2
        refine small1000 ?_
        unfold hg at this
        omega
      · rw [upd_same, List.map_append]
        rfl
      · rw [take_snoc hr1]
        refine paired_app (paired_ext (fun b row q => ⟨q.1, ?_⟩) h2) (.cons ⟨nt, ?_⟩ .nil)
        · rw [upd_ne nt, upd_same]
        · rw [upd_ne q.1, upd_ne (ne_of_none q.2 ht)]
          exact q.2
    · rintro H' ⟨e, ls, h1, h2⟩
      rw [List.length_map, Paired.length A1.r, List.take_length] at h2
      exact k H' Dl ls e ⟨h1, paired_ext (fun _ _ q => q.2) h2⟩
theorem ok_l_beside (D : Df K mg "_law_beside" s_l_beside) (T : Tx K mg CP CO CF S a0 a1 a2 a3) : Cal P w K mg base CX0 1 "_law_beside" ["_law_place"] spBeside := by
  refine cal_of D sc_l_beside (fun _ _ _ _ _ _ us hl => match us, hl with | [_], _ => rfl) (fun vs H Q E h => ?_) (fun f cdv A outer s H vs Q E hr h => ?_)
  · obtain ⟨a, q, rfl, _⟩ := h
    rfl
  · obtain ⟨a, q, rfl, h1, k⟩ := h
    refine ⟨_, (pss_cons (ps_asg (pv 0) (ptupK (K := K) rfl rfl (pgs_cons (pg_name (i := 1) sc_l_beside.nd rfl (by first | exact Or.inl rfl | exact Or.inr rfl)) (pgs_cons (pg_name (i := 2) sc_l_beside.nd rfl (by first | exact Or.inl rfl | exact Or.inr rfl)) pgs_nil))))
      (pss_one (ps_ret (pe_lst (pa_cons (pe_tup (pa_cons (pv 1) (pa_cons (pe_op op_sub (pv 2) pe_int) pa_nil))) (pa_cons (pe_tup (pa_cons (pe_op op_sub (pv 1) pe_int) (pa_cons (pv 2) pa_nil))) (pa_cons (pe_tup (pa_cons (pe_op op_add (pv 1) pe_int) (pa_cons (pv 2) pa_nil))) (pa_cons (pe_tup (pa_cons (pv 1) (pa_cons (pe_op op_add (pv 2) pe_int) pa_nil))) pa_nil)))))))), ?_⟩
    refine ⟨_, rfl, a, _, rfl, SqT.of h1, rfl, _, _, rfl, _, _, rfl, rfl, ?_⟩
    refine ⟨_, rfl, _, rfl, _, _, rfl, rfl, by show 2 ≤ sizeLine; decide, fun t1 ht1 => ?_⟩
    refine ⟨_, rfl, _, _, rfl, rfl, _, rfl, by show 2 ≤ sizeLine; decide, fun t2 ht2 => ?_⟩
    refine ⟨_, rfl, _, _, rfl, rfl, _, rfl, by show 2 ≤ sizeLine; decide, fun t3 ht3 => ?_⟩
    refine ⟨_, rfl, _, rfl, _, _, rfl, rfl, by show 2 ≤ sizeLine; decide, fun t4 ht4 => ?_⟩
    refine ⟨by show 4 ≤ sizeLine; decide, fun l hl => ?_⟩
    have e1 := Same.new (o := .tup [.int q.1, .int (q.2 - 1)]) ht1
    have e2 := Same.mut (o := .tup [.int (q.1 - 1), .int q.2]) e1 (Same.free e1 ht2)
    have e3 := Same.mut (o := .tup [.int (q.1 + 1), .int q.2]) e2 (Same.free e2 ht3)
    have e4 := Same.mut (o := .tup [.int q.1, .int (q.2 + 1)]) e3 (Same.free e3 ht4)
    have e5 := Same.mut (o := .lst [.ref t1, .ref t2, .ref t3, .ref t4]) e4 (Same.free e4 hl)
    refine k _ l [t1, t2, t3, t4] e5 upd_same (Same.free e4 hl) ?_
    have p1 := PlAt.mk (x := q.1) (y := q.2 - 1) t1 H
    have p2 := PlAt.mk (x := q.1 - 1) (y := q.2) t2 (upd H t1 (.tup [.int q.1, .int (q.2 - 1)]))
    have p1 := p1.new (o := .tup [.int (q.1 - 1), .int q.2]) ht2
    have p1 := p1.new (o := .tup [.int (q.1 + 1), .int q.2]) ht3
    have p2 := p2.new (o := .tup [.int (q.1 + 1), .int q.2]) ht3
    have p3 := PlAt.mk (x := q.1 + 1) (y := q.2) t3 (upd (upd H t1 (.tup [.int q.1, .int (q.2 - 1)])) t2 (.tup [.int (q.1 - 1), .int q.2]))
    have p1 := p1.new (o := .tup [.int q.1, .int (q.2 + 1)]) ht4
    have p2 := p2.new (o := .tup [.int q.1, .int (q.2 + 1)]) ht4
    have p3 := p3.new (o := .tup [.int q.1, .int (q.2 + 1)]) ht4
    have p4 := PlAt.mk (x := q.1) (y := q.2 + 1) t4 (upd (upd (upd H t1 (.tup [.int q.1, .int (q.2 - 1)])) t2 (.tup [.int (q.1 - 1), .int q.2])) t3 (.tup [.int (q.1 + 1), .int q.2]))
    exact .cons (p1.new hl) (.cons (p2.new hl) (.cons (p3.new hl) (.cons (p4.new hl) .nil)))
theorem ok_l_rises (D : Df K mg "_law_rises" s_l_rises) (T : Tx K mg CP CO CF S a0 a1 a2 a3) : Cal P w K mg base CX0 1 "_law_rises" ["_law_places"] spRises := by
  refine cal_of D sc_l_rises (fun _ _ _ _ _ _ us hl => match us, hl with | [_], _ => rfl) (fun vs H Q E h => ?_) (fun f cdv A outer s H vs Q E hr h => ?_)
  · obtain ⟨a, bs, qs, rfl, _⟩ := h
    rfl
  · obtain ⟨a, bs, qs, rfl, ha, hp, hb, hl, k⟩ := h
    refine ⟨_, (pss_cons (ps_for PassesOwn.never rfl (pi_range2 (by rfl) T.range (pa_cons pe_int (pa_cons (pe_callB (lenK (K := K) rfl) (by rfl) T.len PySem.boot_len (pa_cons (pv 0) pa_nil)) pa_nil))) (pg_name (i := 1) sc_l_rises.nd rfl (by first | exact Or.inl rfl | exact Or.inr rfl))
      (pss_one (ps_if (pt_cmpR (op_geT hr.units0) (pe_tup (pa_cons (pe_ix (ixT (K := K) rfl) (pe_ix (ixL (K := K) rfl) (pv 0) (pe_op op_sub (pv 1) pe_int) (fun _ _ => rfl)) pe_int (fun _ _ => rfl)) (pa_cons (pe_ix (ixT (K := K) rfl) (pe_ix (ixL (K := K) rfl) (pv 0) (pe_op op_sub (pv 1) pe_int) (fun _ _ => rfl)) pe_int (fun _ _ => rfl)) pa_nil))) (pe_tup (pa_cons (pe_ix (ixT (K := K) rfl) (pe_ix (ixL (K := K) rfl) (pv 0) (pv 1) (fun _ _ => rfl)) pe_int (fun _ _ => rfl)) (pa_cons (pe_ix (ixT (K := K) rfl) (pe_ix (ixL (K := K) rfl) (pv 0) (pv 1) (fun _ _ => rfl)) pe_int (fun _ _ => rfl)) pa_nil))) (nomark _)) (pss_one (ps_ret pe_bl)) pss_nil)))
      (pss_one (ps_ret pe_bl))), ?_⟩
    have lb : bs.length = qs.length := Paired.length hp
    refine ⟨_, rfl, _, bs.length, rfl, .inl ⟨_, SqL.of ha, by rw [List.length_map]⟩, _, _, rfl, ⟨by decide, by decide, by omega, by omega⟩, ?_⟩
    refine for_range (fun i σ' H' => ∃ v1, σ' = [some (.ref a), v1] ∧ Same H H') ⟨none, rfl, fun _ _ h => h⟩ ?_ ?_
    · rintro i σ' H' hi ⟨v1, rfl, e⟩
      have h1 : i < qs.length := by omega
      have h2 : i + 1 < qs.length := by omega
      obtain ⟨b1, e1, f1⟩ := paired_get hp (List.getElem?_eq_getElem h1)
      obtain ⟨b2, e2, f2⟩ := paired_get hp (List.getElem?_eq_getElem h2)
      have bf : Bf qs[i] qs[i + 1] := List.pairwise_iff_getElem.mp hb i (i + 1) h1 h2 (by omega)
      generalize qs[i] = q1 at f1 bf
      generalize qs[i + 1] = q2 at f2 bf
      have a1 : atI (bs.map V.ref) ((1 : Int) + (i : Nat) - 1) = some (.ref b1) := by
        rw [show (1 : Int) + (i : Nat) - 1 = (i : Nat) by omega]
        exact atI_nat (by rw [List.getElem?_map, e1]; rfl)
      have a2 : atI (bs.map V.ref) ((1 : Int) + (i : Nat)) = some (.ref b2) := by
        rw [show (1 : Int) + (i : Nat) = ((i + 1 : Nat) : Int) by omega]
        exact atI_nat (by rw [List.getElem?_map, e2]; rfl)
      have f1' : H' b1 = some (.tup [.int q1.1, .int q1.2]) := e _ _ f1
      have f2' : H' b2 = some (.tup [.int q2.1, .int q2.2]) := e _ _ f2
      refine ⟨_, rfl, _, rfl, _, _, rfl, rfl, _, _, _, _, rfl, rfl, SqL.of (e _ _ ha), a1, _, _, _, _, rfl, rfl, SqT.of f1', rfl, _, rfl, _, rfl, _, _, rfl, rfl, _, _, _, _, rfl, rfl, SqL.of (e _ _ ha), a1, _, _, _, _, rfl, rfl, SqT.of f1', rfl, by show 2 ≤ sizeLine; decide, fun t1 ht1 => ?_⟩
      have e1 := Same.mut (o := .tup [.int q1.2, .int q1.1]) e (Same.free e ht1)
      have f3 : upd H' t1 (.tup [.int q1.2, .int q1.1]) b2 = some (.tup [.int q2.1, .int q2.2]) := e1 _ _ f2
      refine ⟨_, rfl, _, rfl, _, _, _, _, rfl, rfl, SqL.of (e1 _ _ ha), a2, _, _, _, _, rfl, rfl, SqT.of f3, rfl, _, rfl, _, rfl, _, _, _, _, rfl, rfl, SqL.of (e1 _ _ ha), a2, _, _, _, _, rfl, rfl, SqT.of f3, rfl, by show 2 ≤ sizeLine; decide, fun t2 ht2 => ?_⟩
      have e2 := Same.mut (o := .tup [.int q2.2, .int q2.1]) e1 (Same.free e1 ht2)
      refine ⟨t1, t2, q1.2, q1.1, q2.2, q2.1, rfl, rfl, ?_, upd_same, _, rfl, ?_⟩
      · rw [upd_ne (ne_of_none upd_same ht2), upd_same]
      · rw [decide_eq_false (by unfold Bf at bf; omega)]
        exact iteF ⟨_, rfl, e2⟩
    · rintro σ' H' ⟨v1, rfl, e⟩
      exact k H' e
end
end Cf

set_option Elab.async false
set_option linter.all false
set_option maxRecDepth 100000
set_option maxHeartbeats 8000000
namespace Cf
open PySem PySem.Spec PyProof.Rows L2
/-! ### hangs, is_region -/
theorem cut_hi (xs : List V) (k : Nat) : cutV xs none (some (k : Int)) = xs.take k := by
  unfold cutV
  rw [HT.sIx_none, HT.sIx_nat, List.drop_zero, Nat.sub_zero]
  by_cases h : k ≤ xs.length
  · rw [Nat.min_eq_left h]
  · rw [Nat.min_eq_right (by omega), List.take_length, List.take_of_length_le (by omega)]
theorem cut_lo (xs : List V) (k : Nat) : cutV xs (some (k : Int)) none = xs.drop k := by
  unfold cutV
  rw [HT.sIx_none, HT.sIx_nat]
  by_cases h : k ≤ xs.length
  · rw [Nat.min_eq_left h, List.take_of_length_le (by rw [List.length_drop]; omega)]
  · rw [Nat.min_eq_right (by omega), Nat.sub_self, List.take_zero, List.drop_eq_nil_of_le (by omega)]
section
variable {H0 H : Hp} {d wt t : Addr} {o : HO} {p : Pic} {s q : Pl} {left wait : List Pl} {ws : List Addr}
theorem drop_kvs (f : Pl → V) (l : List Pl) (q : Pl) : dropK (kvsOf f l) (kq q) = kvsOf f (l.filter fun r => decide (r ≠ q)) := by
  unfold dropK kvsOf
  rw [List.filter_map]
  congr 1
  refine List.filter_congr fun r _ => ?_
  show decide (kq r ≠ kq q) = decide (r ≠ q)
  by_cases h : r = q
  · simp [h]
  · have : ¬ kq r = kq q := fun z => h (kq_inj z)
    simp [h, this]
theorem FW.drop (F : FW H0 d wt p s left wait ws H) : FW H0 d wt p s (left.filter fun r => decide (r ≠ q)) wait ws (upd H d (.dT (dropK (kvsOf (fun _ => .bl true) left) (kq q)))) :=
  ⟨Same.mut F.same F.fd, F.fd, F.fw, by rw [upd_same, drop_kvs], by rw [upd_ne F.nwd]; exact F.hw, PlsAt.upd F.pl fun b ys hb z => by
    rw [z, F.hd] at hb
    cases hb⟩
theorem FW.pop {b : Addr} {here : Pl} (F : FW H0 d wt p s left (wait ++ [here]) (ws ++ [b]) H) : FW H0 d wt p s left wait ws (upd H wt (.lst ((ws ++ [b]).map V.ref).dropLast)) ∧ PlAt (upd H wt (.lst ((ws ++ [b]).map V.ref).dropLast)) b here := by
  obtain ⟨ws', b', e, hP', hb⟩ := paired_snoc F.pl
  obtain ⟨rfl, e2⟩ := List.append_inj' e rfl
  obtain rfl : b = b' := List.singleton_inj.mp e2
  have n : ∀ b ys, H b = some (.tup ys) → b ≠ wt := fun b ys hb z => by
    rw [z, F.hw] at hb
    cases hb
  refine ⟨⟨Same.mut F.same F.fw, F.fd, F.fw, ?_, ?_, PlsAt.upd hP' n⟩, ?_⟩
  · rw [upd_ne (Ne.symm F.nwd)]
    exact F.hd
  · rw [upd_same, List.map_append]
    simp
  · show upd _ _ _ b = _
    rw [upd_ne (n _ _ hb)]
    exact hb
theorem FW.newT (F : FW H0 d wt p s left wait ws H) {H' : Hp} (e : Same H H') : FW H0 d wt p s left wait ws H' :=
  ⟨fun b o h => e _ _ (F.same b o h), F.fd, F.fw, e _ _ F.hd, e _ _ F.hw, PlsAt.same F.pl e⟩
end
theorem FlI.mem_reg' {p : Pic} {s here q : Pl} {j : Nat} {seen wait : List Pl} (L : FlI p s here j seen wait) (hin : ins p s) (hn : q ∈ near here) (hi : ins p q) (hc : cl p q = cl p s) : q ∈ reg p s :=
  mem_reg.mpr ⟨hi, .step (L.rch here L.hm) hn hi hc⟩
def WHan (H0 : Hp) (a d wt : Addr) (p : Pic) (s : Pl) (m : Nat) (σ : L2.St) (H : Hp) : Prop := ∃ left seen wait ws v2, m ≤ 1200 ∧ m = 2 * (hg p * wd p - seen.length) + wait.length ∧
  σ = [some (.ref a), some (.ref d), v2, some (.ref wt)] ∧ FW H0 d wt p s left wait ws H ∧ Fl p s seen wait ∧ ∀ q, q ∈ left ↔ q ∈ reg p s ∧ q ∉ seen
def spHangs : Sp := fun vs H Q _ => ∃ (a : Addr) (bs : List Addr) (p : Pic) (s : Pl) (r : List Pl), vs = [.ref a] ∧ H a = some (.lst (bs.map V.ref)) ∧ PlsAt H bs (reg p s) ∧ reg p s = s :: r ∧ Good p ∧ ins p s ∧ ∀ H', Same H H' → Q (.bl true) H'
section
variable {P : Program} {w : World} {K : PySem.W.Frag} {mg : Str → Option Value} {base : Heap} {CP CO CF S a0 a1 a2 a3 c Pt : Addr}
theorem ok_l_hangs (D : Df K mg "_law_hangs" s_l_hangs) (T : Tx K mg CP CO CF S a0 a1 a2 a3) (c_l_beside : Cal P w K mg base CX0 1 "_law_beside" ["_law_place"] spBeside) : Cal P w K mg base CX0 2 "_law_hangs" ["_law_places"] spHangs := by
  refine cal_of D sc_l_hangs (fun _ _ _ _ _ _ us hl => match us, hl with | [_], _ => rfl) (fun vs H Q E h => ?_) (fun f cdv A outer s H vs Q E hr h => ?_)
  · obtain ⟨a, bs, p, s, r, rfl, _⟩ := h
    rfl
  · obtain ⟨a, bs, p, s, r, rfl, ha, hp, hrg, g, hin, k⟩ := h
    refine ⟨_, (pss_cons (ps_set (i := 1) sc_l_hangs.nd rfl (by first | exact Or.inl rfl | exact Or.inr rfl) pe_dnewT)
      (pss_cons (ps_for PassesOwn.never rfl (pi_list (pe_slice (slK (K := K) rfl) (pv 0) (po_some pe_int) po_none)) (pg_name (i := 2) sc_l_hangs.nd rfl (by first | exact Or.inl rfl | exact Or.inr rfl))
      (pss_one (ps_dput (hu_of hr) (pv 1) (pv 2) pe_bl rfl)))
      (pss_cons (ps_set (i := 3) sc_l_hangs.nd rfl (by first | exact Or.inl rfl | exact Or.inr rfl) (pe_lst (pa_cons (pe_ix (ixL (K := K) rfl) (pv 0) pe_int (fun _ _ => rfl)) pa_nil)))
      (pss_cons (ps_while PassesOwn.never (pt_cmpR (neK (K := K) rfl hr.units) (pv 3) (pe_lst pa_nil) (nomark _))
      (pss_one (ps_for PassesOwn.never rfl (pi_list (pe_cal c_l_beside hr (by decide) (by rfl) (pa_cons (pe_bm0 PySem.F.plainAttrs_list PySem.F.slot_list_pop PySem.F.type_list_pop mt_pop (pv 3)) pa_nil))) (pg_name (i := 2) sc_l_hangs.nd rfl (by first | exact Or.inl rfl | exact Or.inr rfl))
      (pss_one (ps_if (pt_cmp (pc_din (hu_of hr) (pv 2) (pv 1))) (pss_cons (ps_expr (pe_bm PySem.F.plainAttrs_dict PySem.F.slot_dict_pop PySem.F.type_dict_pop (mt_popT1 (hu_of hr)) (pv 1) (pa_cons (pv 2) pa_nil)))
      (pss_one (ps_expr (pe_bm PySem.F.plainAttrs_list PySem.F.slot_list_append PySem.F.type_list_append mt_append (pv 3) (pa_cons (pv 2) pa_nil))))) pss_nil)))))
      (pss_one (ps_ret (pe_cmpR (op_eqE hr.units0) (pv 1) pe_dnewT (nomark _)))))))), ?_⟩
    have area := g.area
    have rl := reg_len p s
    have rn := reg_nodup p s
    refine fun d hd => ?_
    have ha1 : upd H d (.dT []) a = some (.lst (bs.map V.ref)) := (Same.new hd) _ _ ha
    refine ⟨_, rfl, _, rfl, _, _, rfl, SqL.of ha1, fun sl hsl => ⟨sl, rfl, ⟨_, SqL.of upd_same⟩, ?_⟩⟩
    obtain ⟨b0, bs', rfl⟩ : ∃ b0 bs', bs = b0 :: bs' := by
      rw [hrg] at hp
      cases hp
      exact ⟨_, _, rfl⟩
    have hp' := hp
    rw [hrg] at hp'
    obtain ⟨hb0, hpr⟩ : PlAt H b0 s ∧ PlsAt H bs' r := by
      cases hp'
      exact ⟨by assumption, by assumption⟩
    have e1 := Same.new (o := .dT []) hd
    have ecut : cutV (V.ref b0 :: bs'.map V.ref) (some 1) none = bs'.map V.ref := cut_lo _ 1
    have e2 : Same H (upd (upd H d (.dT [])) sl (.lst (bs'.map V.ref))) := Same.mut e1 (Same.free e1 hsl)
    have nds : d ≠ sl := ne_of_none upd_same hsl
    have hsl2 : upd (upd H d (.dT [])) sl (.lst (cutV ((b0 :: bs').map V.ref) (some 1) none)) = upd (upd H d (.dT [])) sl (.lst (bs'.map V.ref)) := by
      rw [List.map_cons, ecut]
    rw [hsl2]
    rw [hrg] at rn
    refine for_put (c := .bl true) (seen := []) upd_same (PlsAt.same hpr e2) (by rw [upd_ne nds, upd_same]; rfl) (fun q hq => List.not_mem_nil) (List.nodup_cons.mp rn).2 ?_ rfl (by decide) (by show 2 < 4; decide) (fun _ _ => val_c) ?_
    · rw [hrg] at rl
      simp only [List.length_cons, List.length_nil] at rl ⊢
      omega
    · intro σ9 hs9
      obtain ⟨v2, rfl⟩ : ∃ v2, σ9 = [some (.ref a), some (.ref d), v2, none] := by
        rcases hs9 with rfl | ⟨v, rfl⟩
        · exact ⟨_, rfl⟩
        · exact ⟨_, rfl⟩
      have e3 : Same H (upd (upd (upd H d (.dT [])) sl (.lst (bs'.map V.ref))) d (.dT (kvsOf (fun _ => .bl true) ([] ++ r)))) := Same.mut e2 hd
      have hd3 : upd (upd (upd H d (.dT [])) sl (.lst (bs'.map V.ref))) d (.dT (kvsOf (fun _ => .bl true) ([] ++ r))) d = some (.dT (kvsOf (fun _ => .bl true) r)) := upd_same
      revert e3 hd3
      generalize upd (upd (upd H d (.dT [])) sl (.lst (bs'.map V.ref))) d (.dT (kvsOf (fun _ => .bl true) ([] ++ r))) = H1
      intro e3 hd3
      refine ⟨_, rfl, _, _, _, _, rfl, rfl, SqL.of (e3 _ _ ha), atI_nat (j := 0) rfl, by show 1 ≤ sizeLine; decide, fun wt hwt => ?_⟩
      have F0 : FW H d wt p s r [s] [b0] (upd H1 wt (.lst [.ref b0])) := by
        refine ⟨Same.mut e3 (Same.free e3 hwt), hd, Same.free e3 hwt, ?_, upd_same, .cons ?_ .nil⟩
        · rw [upd_ne (ne_of_none hd3 hwt)]
          exact hd3
        · exact (show PlAt H1 b0 s from e3 _ _ hb0).new hwt
      revert F0
      generalize upd H1 wt (.lst [.ref b0]) = H2
      intro F0
      have left0 : ∀ q, q ∈ r ↔ q ∈ reg p s ∧ q ∉ [s] := fun q => by
        rw [hrg, List.mem_cons, List.mem_singleton]
        constructor
        · intro hq
          exact ⟨.inr hq, fun z => (List.nodup_cons.mp rn).1 (z ▸ hq)⟩
        · rintro ⟨h1 | h1, h2⟩
          · exact absurd h1 h2
          · exact h1
      refine ⟨WHan H a d wt p s, ⟨_, r, [s], [s], [b0], v2, by simp only [List.length_singleton]; omega, rfl, rfl, F0, Fl.start p s, left0⟩, ?_⟩
      rintro m σ' H' ⟨left, seen, wait, ws, v2, hm0, rfl, rfl, F, L, hleft⟩
      refine ⟨_, rfl, by show 0 ≤ sizeLine; decide, fun z hz => ?_⟩
      have Fz := F.new (o := .lst []) hz
      have lw : wait.length ≤ 1200 := by omega
      refine ⟨dPls wait, dPls [], dp_pls Fz.hw Fz.pl, .lst (SqL.of upd_same) .nil, (sh_pls _).shaped (by decide), (sh_pls _).shaped (by decide), _, rfl, ?_⟩
      generalize upd H' z (.lst []) = H3 at Fz ⊢
      rcases List.eq_nil_or_concat wait with rfl | ⟨w', here, rfl⟩
      · refine iteF ?_
        have hl : left = [] := by
          refine List.eq_nil_iff_forall_not_mem.mpr fun q hq => ?_
          obtain ⟨h1, h2⟩ := (hleft q).mp hq
          exact h2 ((L.mem hin q).mpr h1)
        subst hl
        refine ⟨_, rfl, fun em hem => ?_⟩
        have Fe := Fz.new (o := .dT []) hem
        exact ⟨d, em, rfl, rfl, Fe.hd, upd_same, k _ Fe.same⟩
      · rw [List.concat_eq_append] at F Fz L hm0 lw ⊢
        have hne : (!PyData.eqv (dPls (w' ++ [here])) (dPls [])) = true := by
          rw [dPls, dPls]
          cases w' <;> simp [PyData.eqv, PyData.eqvAll]
        rw [hne]
        refine iteT ?_
        refine ⟨fun σ' H' => ∃ m', m' < 2 * (hg p * wd p - seen.length) + (w' ++ [here]).length ∧ WHan H a d wt p s m' σ' H', fun _ _ z => z, ?_⟩
        obtain ⟨ws', b, rfl, _, _⟩ := paired_snoc Fz.pl
        obtain ⟨F1, hb1⟩ := Fz.pop
        refine ⟨_, rfl, .inl ⟨rfl, _, SqL.of Fz.hw⟩, wt, _, .ref b, rfl, rfl, Fz.hw, by simp, ?_⟩
        refine ⟨b, here, rfl, hb1, fun H5 nl nbs e5 hnl fnl hnp => ⟨nl, rfl, ⟨_, SqL.of hnl⟩, ?_⟩⟩
        have F5 := F1.newT e5
        have nlw : nl ≠ wt := fun z => by
          rw [z, F1.hw] at fnl
          cases fnl
        refine for_list (fun j σ' H' => ∃ left2 seen2 wait ws v2, 2 * (hg p * wd p - seen2.length) + wait.length < 2 * (hg p * wd p - seen.length) + (w' ++ [here]).length ∧
          σ' = [some (.ref a), some (.ref d), v2, some (.ref wt)] ∧ FW H d wt p s left2 wait ws H' ∧ FlI p s here j seen2 wait ∧ (∀ q, q ∈ left2 ↔ q ∈ reg p s ∧ q ∉ seen2) ∧ H' nl = some (.lst (nbs.map V.ref)) ∧ PlsAt H' nbs (near here))
          ⟨left, seen, w', ws', v2, by simp, rfl, F5, L.pop, hleft, hnl, hnp⟩ (fun i σ H _ h => by obtain ⟨_, _, _, _, _, _, _, _, _, _, h, _⟩ := h; exact SqL.of h) ?_ ?_
        · rintro j it σ3 H6 hj ⟨left2, seen2, wait2, ws2, v2, hm, rfl, F2, L2, hl2, hn2, hp2⟩
          rw [List.getElem?_map] at hj
          obtain ⟨bq, hbq, rfl⟩ := Option.map_eq_some_iff.mp hj
          obtain ⟨q, hnr, hq⟩ := paired_at hp2 hbq
          refine ⟨_, rfl, _, rfl, d, _, rfl, DGet.t (k := kq q) F2.hd hq, _, rfl, ?_⟩
          rw [valV_kvs]
          by_cases hin2 : q ∈ left2
          · rw [if_pos hin2]
            refine iteT ?_
            obtain ⟨h1, h2⟩ := (hl2 q).mp hin2
            obtain ⟨h3, h4⟩ := mem_reg.mp h1
            have L3 := L2.add hnr h3 h4.cell h2
            have l4 := L3.len hin
            refine ⟨_, rfl, .inr (.inr (.inl ⟨rfl, .inr ⟨_, F2.hd⟩⟩)), _, rfl, d, _, kq q, bq, .bl true, rfl, rfl, F2.hd, hq, by rw [valV_kvs, if_pos hin2], ?_⟩
            have F3 := F2.drop (q := q)
            have hq3 : PlAt (upd H6 d (.dT (dropK (kvsOf (fun _ => .bl true) left2) (kq q)))) bq q := hq.put F2.hd
            have hn3 : upd H6 d (.dT (dropK (kvsOf (fun _ => .bl true) left2) (kq q))) nl = some (.lst (nbs.map V.ref)) := by
              rw [upd_ne fun z => by rw [z, F2.hd] at hn2; cases hn2]
              exact hn2
            have hp3 : PlsAt (upd H6 d (.dT (dropK (kvsOf (fun _ => .bl true) left2) (kq q)))) nbs (near here) := paired_ext (fun _ _ z => PlAt.put z F2.hd) hp2
            revert F3 hq3 hn3 hp3
            generalize upd H6 d (.dT (dropK (kvsOf (fun _ => .bl true) left2) (kq q))) = H7
            intro F3 hq3 hn3 hp3
            have wl : ws2.length = wait2.length := Paired.length F3.pl
            refine ⟨_, rfl, .inl ⟨rfl, _, SqL.of F3.hw⟩, _, rfl, wt, _, _, rfl, rfl, F3.hw, ?_, ?_⟩
            · rw [List.length_map, wl]
              show wait2.length < sizeLine
              unfold sizeLine
              omega
            · refine ⟨left2.filter fun r => decide (r ≠ q), seen2 ++ [q], wait2 ++ [q], ws2 ++ [bq], _, ?_, rfl, F3.push hq3, L3, fun r => ?_, ?_, paired_ext (fun _ _ z => PlAt.push z F3.hw) hp3⟩
              · simp only [List.length_append, List.length_singleton] at hm l4 ⊢
                omega
              · rw [List.mem_filter, hl2, List.mem_append, List.mem_singleton, decide_eq_true_eq]
                constructor
                · rintro ⟨⟨z1, z2⟩, z3⟩
                  exact ⟨z1, fun z => z.elim z2 z3⟩
                · rintro ⟨z1, z2⟩
                  exact ⟨⟨z1, fun z => z2 (.inl z)⟩, fun z => z2 (.inr z)⟩
              · have : nl ≠ wt := fun z => nlw z
                rw [upd_ne this]
                exact hn3
          · rw [if_neg hin2]
            refine iteF ?_
            refine ⟨left2, seen2, wait2, ws2, _, hm, rfl, F2, L2.skip hnr fun hi hc => ?_, hl2, hn2, hp2⟩
            by_cases hs : q ∈ seen2
            · exact hs
            · exact absurd ((hl2 q).mpr ⟨L2.mem_reg' hin (List.mem_of_getElem? hnr) hi hc, hs⟩) hin2
        · rintro σ3 H6 ⟨left2, seen2, wait2, ws2, v2, hm, rfl, F2, L2, hl2, hn2, hp2⟩
          have e4 : (nbs.map V.ref).length = 4 := by rw [List.length_map, Paired.length hp2]; rfl
          rw [e4] at L2
          exact ⟨_, hm, left2, seen2, wait2, ws2, _, by omega, rfl, rfl, F2, L2.end, hl2⟩
end
end Cf

set_option Elab.async false
set_option linter.all false
set_option maxRecDepth 100000
set_option maxHeartbeats 8000000
namespace Cf
open PySem PySem.Spec PyProof.Rows L2
/-! ### is_region, owners -/
theorem go_next {D : Ends} {σ : L2.St} {H : Hp} (h : D.nx σ H) : tNext D σ H := h
theorem go_seq {t u : TS} {D : Ends} {σ : L2.St} {H : Hp} (h : t { D with nx := u D } σ H) : tSeq t u D σ H := h
def spIsRegion (K : PySem.W.Frag) : Sp := fun vs H Q _ => ∃ (a : Addr) (rs : List Addr) (p : Pic) (u : Addr × Addr) (s : Pl), vs = [.ref a, .ref u.1] ∧ PicAt H a rs p ∧ Good p ∧ ins p s ∧ lead p s ∧ RgAt H p u s ∧ ∀ H', Same H H' → Q (.bl true) H'
section
variable {P : Program} {w : World} {K : PySem.W.Frag} {mg : Str → Option Value} {base : Heap} {CP CO CF S a0 a1 a2 a3 c Pt : Addr}
theorem ok_l_is_region (D : Df K mg "_law_is_region" s_l_is_region) (T : Tx K mg CP CO CF S a0 a1 a2 a3) (c_l_whole : Cal P w K mg base CX0 1 "_law_whole" ["_law_found"] spWhole) (c_l_rises : Cal P w K mg base CX0 1 "_law_rises" ["_law_places"] spRises)
    (c_l_hangs : Cal P w K mg base CX0 2 "_law_hangs" ["_law_places"] spHangs) : Cal P w K mg base CX0 3 "_law_is_region" ["_law_picture_here", "_law_region"] (spIsRegion K) := by
  refine cal_of D sc_l_is_region (fun _ _ _ _ _ _ us hl => match us, hl with | [_, _], _ => rfl) (fun vs H Q E h => ?_) (fun f cdv A outer s H vs Q E hr h => ?_)
  · obtain ⟨a, rs, p, u, s, rfl, _⟩ := h
    rfl
  · obtain ⟨a, rs, p, ⟨t, l⟩, s, rfl, A1, g, hin, hld, R, k⟩ := h
    refine ⟨_, (pss_cons (ps_if (PW.pt (pw_or (pt_not (pt_val (pe_callB (isiK (K := K) rfl) (by rfl) T.isinstance (by decide +kernel) (pa_cons (pv 1) (pa_cons (pe_bltn (v := .ty "tuple") (by rfl) T.tuple (by decide +kernel) rfl) pa_nil))))) (pw_or (pt_cmpR op_ne (pe_callB (lenK (K := K) rfl) (by rfl) T.len PySem.boot_len (pa_cons (pv 1) pa_nil)) pe_int (nomark _)) (pw_or1 (pt_not (pt_val (pe_cal c_l_whole hr (by decide) (by rfl) (pa_cons (pe_ix (ixT (K := K) rfl) (pv 1) pe_int (fun _ _ => rfl)) pa_nil)))))))) (pss_one (ps_ret pe_bl)) pss_nil)
      (pss_cons (ps_if (pt_not (pt_val (pe_callB (isiK (K := K) rfl) (by rfl) T.isinstance (by decide +kernel) (pa_cons (pe_ix (ixT (K := K) rfl) (pv 1) pe_int (fun _ _ => rfl)) (pa_cons (pe_bltn (v := .ty "list") (by rfl) T.list (by decide +kernel) rfl) pa_nil))))) (pss_one (ps_ret pe_bl)) pss_nil)
      (pss_cons (ps_for PassesOwn.never rfl (pi_list (pe_ix (ixT (K := K) rfl) (pv 1) pe_int (fun _ _ => rfl))) (pg_name (i := 2) sc_l_is_region.nd rfl (by first | exact Or.inl rfl | exact Or.inr rfl))
      (pss_cons (ps_if (PW.pt (pw_or (pt_not (pt_val (pe_callB (isiK (K := K) rfl) (by rfl) T.isinstance (by decide +kernel) (pa_cons (pv 2) (pa_cons (pe_bltn (v := .ty "tuple") (by rfl) T.tuple (by decide +kernel) rfl) pa_nil))))) (pw_or (pt_cmpR op_ne (pe_callB (lenK (K := K) rfl) (by rfl) T.len PySem.boot_len (pa_cons (pv 2) pa_nil)) pe_int (nomark _)) (pw_or (pt_not (pt_val (pe_cal c_l_whole hr (by decide) (by rfl) (pa_cons (pe_ix (ixT (K := K) rfl) (pv 2) pe_int (fun _ _ => rfl)) pa_nil)))) (pw_or1 (pt_not (pt_val (pe_cal c_l_whole hr (by decide) (by rfl) (pa_cons (pe_ix (ixT (K := K) rfl) (pv 2) pe_int (fun _ _ => rfl)) pa_nil))))))))) (pss_one (ps_ret pe_bl)) pss_nil)
      (pss_cons (ps_if (PW.pt (pw_or (pt_not (pt_chain op_le op_lt pe_int (pe_ix (ixT (K := K) rfl) (pv 2) pe_int (fun _ _ => rfl)) (pe_callB (lenK (K := K) rfl) (by rfl) T.len PySem.boot_len (pa_cons (pv 0) pa_nil)))) (pw_or1 (pt_not (pt_chain op_le op_lt pe_int (pe_ix (ixT (K := K) rfl) (pv 2) pe_int (fun _ _ => rfl)) (pe_callB (lenK (K := K) rfl) (by rfl) T.len PySem.boot_len (pa_cons (pe_ix (ixL (K := K) rfl) (pv 0) pe_int (fun _ _ => rfl)) pa_nil))))))) (pss_one (ps_ret pe_bl)) pss_nil)
      (pss_one (ps_if (pt_cmpR op_ne (pe_ix (ixL (K := K) rfl) (pe_ix (ixL (K := K) rfl) (pv 0) (pe_ix (ixT (K := K) rfl) (pv 2) pe_int (fun _ _ => rfl)) (fun _ _ => rfl)) (pe_ix (ixT (K := K) rfl) (pv 2) pe_int (fun _ _ => rfl)) (fun _ _ => rfl)) (pe_ix (ixT (K := K) rfl) (pv 1) pe_int (fun _ _ => rfl)) (nomark _)) (pss_one (ps_ret pe_bl)) pss_nil)))))
      (pss_one (ps_ret (pe_and (pe_cmpR (neK (K := K) rfl hr.units) (pe_ix (ixT (K := K) rfl) (pv 1) pe_int (fun _ _ => rfl)) (pe_lst pa_nil) (nomark _)) (pe_and (pe_cal c_l_rises hr (by decide) (by rfl) (pa_cons (pe_ix (ixT (K := K) rfl) (pv 1) pe_int (fun _ _ => rfl)) pa_nil)) (pe_one (pe_cal c_l_hangs hr (by decide) (by rfl) (pa_cons (pe_ix (ixT (K := K) rfl) (pv 1) pe_int (fun _ _ => rfl)) pa_nil)))))))))), ?_⟩
    obtain ⟨ht, cs, hl, hp⟩ := R
    simp only at ht hl hp ⊢
    have area := g.area
    have rl := reg_len p s
    obtain ⟨r, hrg⟩ := reg_head hin hld
    refine ⟨_, rfl, _, _, _, _, true, rfl, .ty _, .base (.tup ht), kit_ty (by decide +kernel), true, rfl, iteF ?_⟩
    refine ⟨_, rfl, _, 2, rfl, .inr ⟨_, SqT.of ht, rfl⟩, rfl, _, rfl, iteF ?_⟩
    refine ⟨_, rfl, _, _, _, _, rfl, rfl, SqT.of ht, rfl, _, rfl, true, rfl, iteF ?_⟩
    refine ⟨_, rfl, _, _, _, _, rfl, rfl, SqT.of ht, rfl, _, _, _, _, true, rfl, .ty _, .base (.lst hl), kit_ty (by decide +kernel), true, rfl, iteF ?_⟩
    refine ⟨_, rfl, _, _, _, _, rfl, rfl, SqT.of ht, rfl, l, rfl, ⟨_, SqL.of hl⟩, ?_⟩
    refine for_list (fun i σ' H' => ∃ v2, σ' = [some (.ref a), some (.ref t), v2] ∧ H' = H) ⟨none, rfl, rfl⟩ (fun i σ' H' _ h => by obtain ⟨_, _, rfl⟩ := h; exact SqL.of hl) ?_ ?_
    · rintro i x σ' H' hi ⟨v2, rfl, rfl⟩
      rw [List.getElem?_map] at hi
      obtain ⟨b, hb, rfl⟩ := Option.map_eq_some_iff.mp hi
      obtain ⟨q, hq, hbq⟩ := paired_at hp hb
      have hbq : H' b = some (.tup [.int q.1, .int q.2]) := hbq
      obtain ⟨hqi, hqr⟩ := mem_reg.mp (List.mem_of_getElem? hq)
      obtain ⟨rb, row, z1, z2, z3⟩ := A1.cell g hqi
      obtain ⟨r0, row0, y1, y2, y3⟩ := A1.first g
      refine ⟨_, rfl, _, _, _, _, true, rfl, .ty _, .base (.tup hbq), kit_ty (by decide +kernel), true, rfl, iteF ?_⟩
      refine ⟨_, rfl, _, 2, rfl, .inr ⟨_, SqT.of hbq, rfl⟩, rfl, _, rfl, iteF ?_⟩
      refine ⟨_, rfl, _, _, _, _, rfl, rfl, SqT.of hbq, rfl, _, rfl, true, rfl, iteF ?_⟩
      refine ⟨_, rfl, _, _, _, _, rfl, rfl, SqT.of hbq, rfl, _, rfl, true, rfl, iteF ?_⟩
      refine go_next ?_
      dsimp only
      refine go_seq ?_
      refine s_if (b := (!(decide (0 ≤ q.2) && decide (q.2 < (hg p : Int)))) || (!(decide (0 ≤ q.1) && decide (q.1 < (wd p : Int))))) (an_or (ans_not (an_of ?_)) fun _ => ans_not (an_of ?_)) (fun hb => ?_) (fun hb => ?_)
      · exact vl_chain (f := fun i j => decide (i ≤ j)) (g := fun i j => decide (i < j)) val_c (vl_ixT (val_var rfl) val_c (SqT.of hbq) (i := 1) rfl) (vl_lenL (val_var rfl) (SqL.of A1.o) A1.high)
      · exact vl_chain (f := fun i j => decide (i ≤ j)) (g := fun i j => decide (i < j)) val_c (vl_ixT (val_var rfl) val_c (SqT.of hbq) (i := 0) rfl) (vl_lenL (vl_ixL (val_var rfl) val_c (SqL.of A1.o) y1) (SqL.of y2) y3)
      · rw [decide_eq_true hqi.1, decide_eq_true hqi.2.1, decide_eq_true hqi.2.2.1, decide_eq_true hqi.2.2.2] at hb
        cases hb
      · refine go_next ?_
        dsimp only
        refine s_if (b := !decide (cl p q = cl p s)) (an_neI ?_ ?_) (fun hb => ?_) (fun hb => ?_)
        · exact vl_ixL (vl_ixL (val_var rfl) (vl_ixT (val_var rfl) val_c (SqT.of hbq) (i := 1) rfl) (SqL.of A1.o) z1) (vl_ixT (val_var rfl) val_c (SqT.of hbq) (i := 0) rfl) (SqL.of z2) z3
        · exact vl_ixT (val_var rfl) val_c (SqT.of ht) (i := 0) rfl
        · rw [decide_eq_true hqr.cell] at hb
          cases hb
        · exact ⟨_, rfl, rfl⟩
    · rintro σ' H' ⟨v2, rfl, rfl⟩
      refine ⟨_, rfl, _, _, _, _, rfl, rfl, SqT.of ht, rfl, by show 0 ≤ sizeLine; decide, fun em hem => ?_⟩
      have e1 := Same.new (o := .lst []) hem
      refine ⟨dPls (reg p s), dPls [], dp_pls (e1 _ _ hl) (PlsAt.same hp e1), .lst (SqL.of upd_same) .nil, (sh_pls _).shaped (by decide), (sh_pls _).shaped (by decide), _, rfl, ?_⟩
      have hne : (!PyData.eqv (dPls (reg p s)) (dPls [])) = true := by
        rw [dPls, dPls, hrg]
        simp [PyData.eqv, PyData.eqvAll]
      rw [hne]
      refine iteT ?_
      refine ⟨_, rfl, _, _, _, _, rfl, rfl, SqT.of (e1 _ _ ht), rfl, l, cs, reg p s, rfl, e1 _ _ hl, PlsAt.same hp e1, reg_bf _ _, by omega, fun H2 e2 => ?_⟩
      refine ⟨true, rfl, iteT ?_⟩
      have e3 : Same H' H2 := fun b o h => e2 _ _ (e1 _ _ h)
      exact ⟨_, rfl, _, _, _, _, rfl, rfl, SqT.of (e3 _ _ ht), rfl, l, cs, p, s, r, rfl, e3 _ _ hl, PlsAt.same hp e3, hrg, g, hin, fun H3 e4 => k H3 fun b o h => e4 _ _ (e3 _ _ h)⟩
end
/-! the owners -/
noncomputable def Ls (p : Pic) : List Pl := leads p (pls (wd p) (hg p))
noncomputable def own (p : Pic) (ss : List Pl) : List Pl := ss.flatMap (reg p)
noncomputable def who (p : Pic) (q : Pl) : Nat := (Ls p).findIdx fun s => decide (q ∈ reg p s)
theorem ls_nodup (p : Pic) : (Ls p).Nodup := (leads_bf p).imp fun {a b} (h : Bf a b) (z : a = b) => Bf.irr (a := b) (by rw [z] at h; exact h)
theorem ls_mem {p : Pic} {s : Pl} (h : s ∈ Ls p) : ins p s ∧ lead p s := by
  obtain ⟨h1, h2⟩ := mem_leads.mp h
  exact ⟨mem_pls_ins.mp h1, h2⟩
theorem ls_one {p : Pic} {i j : Nat} {s t q : Pl} (hi : (Ls p)[i]? = some s) (hj : (Ls p)[j]? = some t) (h1 : q ∈ reg p s) (h2 : q ∈ reg p t) : i = j := by
  obtain ⟨a1, a2⟩ := ls_mem (List.mem_of_getElem? hi)
  obtain ⟨b1, b2⟩ := ls_mem (List.mem_of_getElem? hj)
  have e := lead_one a1 b1 a2 b2 (mem_reg.mp h1).2 (mem_reg.mp h2).2
  subst e
  rw [List.getElem?_eq_some_iff] at hi hj
  obtain ⟨hi1, hi2⟩ := hi
  obtain ⟨hj1, hj2⟩ := hj
  rcases Nat.lt_trichotomy i j with h | h | h
  · exact absurd (hi2.trans hj2.symm) (List.pairwise_iff_getElem.mp (ls_nodup p) i j hi1 hj1 h)
  · exact h
  · exact absurd (hj2.trans hi2.symm) (List.pairwise_iff_getElem.mp (ls_nodup p) j i hj1 hi1 h)
theorem who_at {p : Pic} {k : Nat} {s q : Pl} (hk : (Ls p)[k]? = some s) (hq : q ∈ reg p s) : who p q = k := by
  have hk' := List.getElem?_eq_some_iff.mp hk
  obtain ⟨hk1, hk2⟩ := hk'
  unfold who
  refine (List.findIdx_eq hk1).mpr ⟨by rw [hk2]; exact decide_eq_true hq, fun j hj => ?_⟩
  refine decide_eq_false fun z => ?_
  have := ls_one (List.getElem?_eq_getElem (Nat.lt_trans hj hk1)) hk z hq
  omega
theorem own_new {p : Pic} {k : Nat} {s q : Pl} (hk : (Ls p)[k]? = some s) (hq : q ∈ reg p s) : q ∉ own p ((Ls p).take k) := by
  intro h
  unfold own at h
  rw [List.mem_flatMap] at h
  obtain ⟨t, ht, h2⟩ := h
  rw [List.mem_take_iff_getElem] at ht
  obtain ⟨j, hj, e⟩ := ht
  have := ls_one (p := p) (i := j) (j := k) (t := s) (List.getElem?_eq_getElem (by omega)) hk (by rw [e]; exact h2) hq
  omega
theorem own_snoc {p : Pic} {l : List Pl} {s : Pl} : own p (l ++ [s]) = own p l ++ reg p s := by
  unfold own
  rw [List.flatMap_append]
  simp
theorem mem_own {p : Pic} {q : Pl} : q ∈ own p (Ls p) ↔ ins p q := by
  unfold own
  rw [List.mem_flatMap]
  constructor
  · rintro ⟨s, _, h⟩
    exact (mem_reg.mp h).1
  · intro h
    obtain ⟨s, h1, h2, h3⟩ := has_lead h
    exact ⟨s, mem_leads.mpr ⟨mem_pls_ins.mpr h1, h2⟩, mem_reg.mpr ⟨h, h3⟩⟩
theorem own_nodup (p : Pic) : ∀ k, (own p ((Ls p).take k)).Nodup
  | 0 => .nil
  | k + 1 => by
    cases e : (Ls p)[k]? with
    | none =>
      have : (Ls p).length ≤ k := List.getElem?_eq_none_iff.mp e
      have h := own_nodup p k
      rw [List.take_of_length_le this] at h
      rw [List.take_of_length_le (by omega)]
      exact h
    | some s =>
      rw [take_snoc e, own_snoc]
      exact List.nodup_append.mpr ⟨own_nodup p k, reg_nodup p s, fun a ha b hb z => own_new e hb (z ▸ ha)⟩
theorem own_nodup_all (p : Pic) : (own p (Ls p)).Nodup := by
  have := own_nodup p (Ls p).length
  rw [List.take_length] at this
  exact this
theorem own_len (p : Pic) : (own p (Ls p)).length = hg p * wd p := by
  refine Nat.le_antisymm ?_ ?_
  · rw [← pls_len]
    exact nodup_len (own_nodup_all p) fun q hq => mem_pls_ins.mpr (mem_own.mp hq)
  · rw [← pls_len]
    exact nodup_len (pls_nodup _ _) fun q hq => mem_own.mpr (mem_pls_ins.mp hq)
theorem who_eq {p : Pic} {q r : Pl} (hq : ins p q) (h : Reach p q r) : who p r = who p q := by
  unfold who
  congr 1
  funext s
  congr 1
  refine propext ?_
  rw [mem_reg, mem_reg]
  constructor
  · rintro ⟨h1, h2⟩
    exact ⟨hq, h2.trans (h.symm hq)⟩
  · rintro ⟨h1, h2⟩
    exact ⟨h.ins hq, h2.trans h⟩
noncomputable abbrev ownK (p : Pic) (ss : List Pl) : List (List Key × V) := kvsOf (fun q => .int (who p q : Nat)) (own p ss)
end Cf

set_option Elab.async false
set_option linter.all false
set_option maxRecDepth 100000
set_option maxHeartbeats 8000000
namespace Cf
open PySem PySem.Spec PyProof.Rows L2
/-! ### owners, parted, borders_right -/
/-- the found list in the heap -/
structure FoundAt (H : Hp) (l : Addr) (us : List (Addr × Addr)) (p : Pic) : Prop where
  o : H l = some (.lst (us.map fun u => V.ref u.1))
  r : Paired (RgAt H p) us (Ls p)
theorem FoundAt.xt {H H' : Hp} {l : Addr} {us : List (Addr × Addr)} {p : Pic} (F : FoundAt H l us p) (e : Xt H H') : FoundAt H' l us p := ⟨e.l F.o, paired_ext (fun _ _ q => q.xt e) F.r⟩
theorem FoundAt.len {H : Hp} {l : Addr} {us : List (Addr × Addr)} {p : Pic} (F : FoundAt H l us p) : us.length = (Ls p).length := Paired.length F.r
theorem FoundAt.at {H : Hp} {l : Addr} {us : List (Addr × Addr)} {p : Pic} (F : FoundAt H l us p) {k : Nat} {s : Pl} (hk : (Ls p)[k]? = some s) : ∃ u, atI (us.map fun u => V.ref u.1) (k : Int) = some (.ref u.1) ∧ RgAt H p u s := by
  obtain ⟨u, h1, h2⟩ := paired_get F.r hk
  exact ⟨u, atI_nat (by rw [List.getElem?_map, h1]; rfl), h2⟩
theorem ls_len {p : Pic} (g : Good p) : (Ls p).length ≤ 576 := by
  have h : (Ls p).length ≤ (pls (wd p) (hg p)).length := List.length_filter_le _ _
  rw [pls_len] at h
  have := g.area
  omega
section
variable {K : PySem.W.Frag} {σ : L2.St} {H : Hp} {td ty : TE} {d b : Addr} {q : Pl} {f : Pl → V} {l : List Pl}
theorem rd_get (hd : Rd H d (.dT (kvsOf f l))) (hq : PlAt H b q) : DGet H d (.ref b) (if q ∈ l then some (f q) else none) := .inr ⟨_, kq q, b, hd, rfl, hq, (valV_kvs f l q).symm⟩
theorem vl_dget (ha : Val td σ H (.ref d)) (hb : Val ty σ H (.ref b)) (hd : Rd H d (.dT (kvsOf f l))) (hq : PlAt H b q) (hm : q ∈ l) : Val (tDGet td ty) σ H (f q) := fun Q k => ha _ (hb _ ⟨d, f q, rfl, by
  have := rd_get hd hq
  rw [if_pos hm] at this
  exact this, k⟩)
theorem an_din (hb : Val ty σ H (.ref b)) (ha : Val td σ H (.ref d)) (hd : Rd H d (.dT (kvsOf f l))) (hq : PlAt H b q) : Ans (tB (tDIn ty td)) σ H (decide (q ∈ l)) := fun Q k => hb _ (ha _ ⟨d, _, rfl, rd_get hd hq, _, rfl, by
  by_cases c : q ∈ l
  · rw [if_pos c]
    rw [decide_eq_true c] at k
    exact k
  · rw [if_neg c]
    rw [decide_eq_false c] at k
    exact k⟩)
end
def spOwners : Sp := fun vs H Q _ => ∃ (l : Addr) (us : List (Addr × Addr)) (p : Pic), vs = [.ref l] ∧ FoundAt H l us p ∧ Good p ∧ ∀ H' d, Same H H' → H d = none → H' d = some (.dT (ownK p (Ls p))) → Q (.ref d) H'
def spParted : Sp := fun vs H Q _ => ∃ (a : Addr) (rs : List Addr) (p : Pic) (d : Addr), vs = [.ref a, .ref d] ∧ PicAt H a rs p ∧ Good p ∧ H d = some (.dT (ownK p (Ls p))) ∧ ∀ H', Same H H' → Q (.bl true) H'
def spBordersRight : Sp := fun vs H Q _ => ∃ (l : Addr) (us : List (Addr × Addr)) (p : Pic) (d : Addr), vs = [.ref d, .ref l] ∧ FoundAt H l us p ∧ Good p ∧ H d = some (.dT (ownK p (Ls p))) ∧ ∀ H', Same H H' → Q (.bl true) H'
section
variable {P : Program} {w : World} {K : PySem.W.Frag} {mg : Str → Option Value} {base : Heap} {CP CO CF S a0 a1 a2 a3 c Pt : Addr}
theorem ok_l_owners (D : Df K mg "_law_owners" s_l_owners) (T : Tx K mg CP CO CF S a0 a1 a2 a3) : Cal P w K mg base CX0 1 "_law_owners" ["_law_found"] spOwners := by
  refine cal_of D sc_l_owners (fun _ _ _ _ _ _ us hl => match us, hl with | [_], _ => rfl) (fun vs H Q E h => ?_) (fun f cdv A outer s H vs Q E hr h => ?_)
  · obtain ⟨l, us, p, rfl, _⟩ := h
    rfl
  · obtain ⟨l, us, p, rfl, F, g, k⟩ := h
    refine ⟨_, (pss_cons (ps_set (i := 1) sc_l_owners.nd rfl (by first | exact Or.inl rfl | exact Or.inr rfl) pe_dnewT)
      (pss_cons (ps_for PassesOwn.never rfl (pi_range1 (by rfl) T.range (pa_cons (pe_callB (lenK (K := K) rfl) (by rfl) T.len PySem.boot_len (pa_cons (pv 0) pa_nil)) pa_nil)) (pg_name (i := 2) sc_l_owners.nd rfl (by first | exact Or.inl rfl | exact Or.inr rfl))
      (pss_one (ps_for PassesOwn.never rfl (pi_list (pe_ix (ixT (K := K) rfl) (pe_ix (ixL (K := K) rfl) (pv 0) (pv 2) (fun _ _ => rfl)) pe_int (fun _ _ => rfl))) (pg_name (i := 3) sc_l_owners.nd rfl (by first | exact Or.inl rfl | exact Or.inr rfl))
      (pss_cons (ps_if (pt_cmp (pc_din (hu_of hr) (pv 3) (pv 1))) (pss_one (ps_ret pe_dnewT)) pss_nil)
      (pss_one (ps_dput (hu_of hr) (pv 1) (pv 3) (pv 2) rfl))))))
      (pss_one (ps_ret (pv 1))))), ?_⟩
    have ll := ls_len g
    have ul := F.len
    refine fun d hd => ?_
    have e1 := Same.new (o := .dT []) hd
    refine ⟨_, rfl, _, us.length, rfl, .inl ⟨_, SqL.of (e1 _ _ F.o), by rw [List.length_map]⟩, _, rfl, by omega, by omega, ?_⟩
    refine for_range (fun i σ' H' => ∃ v2 v3, σ' = [some (.ref l), some (.ref d), v2, v3] ∧ H' = upd H d (.dT (ownK p ((Ls p).take i)))) ⟨none, none, rfl, rfl⟩ ?_ ?_
    · rintro i σ' H' hi ⟨v2, v3, rfl, rfl⟩
      have hi : i < (Ls p).length := by omega
      have hk := List.getElem?_eq_getElem hi
      generalize (Ls p)[i] = s at hk
      obtain ⟨u, h1, R⟩ := F.at hk
      have e2 : Same H (upd H d (.dT (ownK p ((Ls p).take i)))) := Same.new hd
      obtain ⟨cs, hl, hp⟩ := R.l
      rw [Int.zero_add]
      refine ⟨_, rfl, _, rfl, _, _, _, _, rfl, rfl, SqL.of (e2 _ _ F.o), h1, _, _, _, _, rfl, rfl, SqT.of (e2 _ _ R.t), rfl, u.2, rfl, ⟨_, SqL.of (e2 _ _ hl)⟩, ?_⟩
      refine for_list (fun j σ' H' => ∃ v3, σ' = [some (.ref l), some (.ref d), some (.int (i : Nat)), v3] ∧ H' = upd H d (.dT (kvsOf (fun q => .int (who p q : Nat)) (own p ((Ls p).take i) ++ (reg p s).take j)))) ⟨v3, rfl, ?_⟩
        (fun j σ' H' _ h => by obtain ⟨_, _, rfl⟩ := h; exact SqL.of (Same.new hd _ _ hl)) ?_ ?_
      · rw [List.take_zero, List.append_nil]
      · rintro j x σ3 H3 hj ⟨v3, rfl, rfl⟩
        rw [List.getElem?_map] at hj
        obtain ⟨b, hb, rfl⟩ := Option.map_eq_some_iff.mp hj
        obtain ⟨q, hq, hbq⟩ := paired_at hp hb
        have hbq : H b = some (.tup [.int q.1, .int q.2]) := hbq
        have hqm := List.mem_of_getElem? hq
        have hn : q ∉ own p ((Ls p).take i) ++ (reg p s).take j := fun z => by
          rcases List.mem_append.mp z with z | z
          · exact own_new hk hqm z
          · rw [List.mem_take_iff_getElem] at z
            obtain ⟨m, hm, em⟩ := z
            rw [List.getElem?_eq_some_iff] at hq
            obtain ⟨hj1, ej⟩ := hq
            exact List.pairwise_iff_getElem.mp (reg_nodup p s) m j (by omega) hj1 (by omega) (em.trans ej.symm)
        refine ⟨_, rfl, _, rfl, d, _, rfl, DGet.t (k := kq q) upd_same (Same.new hd _ _ hbq), _, rfl, ?_⟩
        rw [valV_kvs, if_neg hn]
        refine iteF ?_
        refine ⟨_, rfl, _, rfl, _, rfl, d, _, rfl, DPut.t (k := kq q) upd_same (Same.new hd _ _ hbq) ?_, ?_⟩
        · rw [kvs_len, List.length_append, List.length_take]
          have z1 : (own p ((Ls p).take i)).length ≤ 576 := by
            have := nodup_len (own_nodup p i) (m := pls (wd p) (hg p)) fun q hq => by
              unfold own at hq
              rw [List.mem_flatMap] at hq
              obtain ⟨t, _, h2⟩ := hq
              exact mem_pls_ins.mpr (mem_reg.mp h2).1
            rw [pls_len] at this
            have := g.area
            omega
          have z2 := reg_len p s
          have := g.area
          unfold sizeLine
          omega
        · refine ⟨_, rfl, ?_⟩
          have e : V.int (i : Nat) = (fun q => V.int (who p q : Nat)) q := by
            show _ = V.int (who p q : Nat)
            rw [who_at hk hqm]
          rw [e, upd_upd, putK_kvs (f := fun q => V.int (who p q : Nat)) hn, take_snoc hq, List.append_assoc]
      · rintro σ3 H3 ⟨v3, rfl, rfl⟩
        refine ⟨_, _, rfl, ?_⟩
        rw [List.length_map, Paired.length hp, List.take_length, take_snoc hk]
        simp only [ownK, own_snoc]
    · rintro σ' H' ⟨v2, v3, rfl, rfl⟩
      rw [ul, Int.toNat_natCast, List.take_length]
      exact ⟨_, rfl, k _ d (Same.new hd) hd upd_same⟩
theorem ok_l_parted (D : Df K mg "_law_parted" s_l_parted) (T : Tx K mg CP CO CF S a0 a1 a2 a3) : Cal P w K mg base CX0 1 "_law_parted" ["_law_picture_here", "_law_owners_here"] spParted := by
  refine cal_of D sc_l_parted (fun _ _ _ _ _ _ us hl => match us, hl with | [_, _], _ => rfl) (fun vs H Q E h => ?_) (fun f cdv A outer s H vs Q E hr h => ?_)
  · obtain ⟨a, rs, p, d, rfl, _⟩ := h
    rfl
  · obtain ⟨a, rs, p, d, rfl, A1, g, hd, k⟩ := h
    refine ⟨_, (pss_cons (ps_if (pt_cmpR op_ne (pe_callB call_len_dT (by rfl) T.len PySem.boot_len (pa_cons (pv 1) pa_nil)) (pe_op op_mulS (pe_callB (lenK (K := K) rfl) (by rfl) T.len PySem.boot_len (pa_cons (pv 0) pa_nil)) (pe_callB (lenK (K := K) rfl) (by rfl) T.len PySem.boot_len (pa_cons (pe_ix (ixL (K := K) rfl) (pv 0) pe_int (fun _ _ => rfl)) pa_nil))) (nomark _)) (pss_one (ps_ret pe_bl)) pss_nil)
      (pss_cons (ps_lock (ps_for PassesOwn.never rfl (pi_keys (pv 1)) (pg_name (i := 2) sc_l_parted.nd rfl (by first | exact Or.inl rfl | exact Or.inr rfl))
      (pss_cons (ps_asg (pv 2) (ptupK (K := K) rfl rfl (pgs_cons (pg_name (i := 3) sc_l_parted.nd rfl (by first | exact Or.inl rfl | exact Or.inr rfl)) (pgs_cons (pg_name (i := 4) sc_l_parted.nd rfl (by first | exact Or.inl rfl | exact Or.inr rfl)) pgs_nil))))
      (pss_one (ps_for PassesOwn.never rfl (pi_list (pe_lst (pa_cons (pe_tup (pa_cons (pe_op op_add (pv 3) pe_int) (pa_cons (pv 4) pa_nil))) (pa_cons (pe_tup (pa_cons (pv 3) (pa_cons (pe_op op_add (pv 4) pe_int) pa_nil))) pa_nil)))) (pg_name (i := 5) sc_l_parted.nd rfl (by first | exact Or.inl rfl | exact Or.inr rfl))
      (pss_one (ps_if (PW.pt (pw_and (pt_cmp (pc_din (hu_of hr) (pv 5) (pv 1))) (pw_and (pt_cmpR op_eq (pe_ix (ixL (K := K) rfl) (pe_ix (ixL (K := K) rfl) (pv 0) (pe_ix (ixT (K := K) rfl) (pv 5) pe_int (fun _ _ => rfl)) (fun _ _ => rfl)) (pe_ix (ixT (K := K) rfl) (pv 5) pe_int (fun _ _ => rfl)) (fun _ _ => rfl)) (pe_ix (ixL (K := K) rfl) (pe_ix (ixL (K := K) rfl) (pv 0) (pv 4) (fun _ _ => rfl)) (pv 3) (fun _ _ => rfl)) (nomark _)) (pw_and1 (pt_cmpR op_ne (pe_dget (hu_of hr) (pv 1) (pv 5) (fun _ _ => rfl)) (pe_dget (hu_of hr) (pv 1) (pv 2) (fun _ _ => rfl)) (nomark _)))))) (pss_one (ps_ret pe_bl)) pss_nil)))))))
      (pss_one (ps_ret pe_bl)))), ?_⟩
    obtain ⟨r0, row0, y1, y2, y3⟩ := A1.first g
    refine ⟨_, rfl, d, _, rfl, hd, ?_⟩
    refine ⟨_, rfl, _, rs.length, rfl, .inl ⟨_, SqL.of A1.o, by rw [List.length_map]⟩, _, rfl, _, _, _, _, rfl, rfl, SqL.of A1.o, y1, _, wd p, rfl, .inl ⟨_, SqL.of y2, Int.ofNat_inj.mp y3.symm⟩, _, _, rfl, rfl, ?_, rfl, _, rfl, ?_⟩
    · have := g.h2
      have := g.w2
      have := A1.len
      exact mul_ok (Nat.le_trans (bits_small (Nat.lt_of_le_of_lt (show (rs.length : Int).natAbs ≤ 24 by omega) (by decide))) (by decide)) (Nat.le_trans (bits_small (Nat.lt_of_le_of_lt (show (wd p : Int).natAbs ≤ 24 by omega) (by decide))) (by decide))
    · have e : V.int ((ownK p (Ls p)).length : Nat) = V.int ((rs.length : Nat) * (wd p : Nat)) := by
        rw [kvs_len, own_len, A1.len, Int.natCast_mul]
      have e2 : decide (V.int ((ownK p (Ls p)).length : Nat) = V.int ((rs.length : Nat) * (wd p : Nat))) = true := decide_eq_true e
      show (if (!decide (V.int ((ownK p (Ls p)).length : Nat) = V.int ((rs.length : Nat) * (wd p : Nat)))) = true then _ else _)
      rw [e2]
      refine iteF ?_
      refine ⟨d, _, hd, True.intro, fun od => ?_⟩
      refine ⟨_, rfl, d, od, rfl, .inr ⟨_, upd_same, ?_⟩⟩
      have nd : ∀ b o, H b = some o → b ≠ d → upd H d (.frz od (.dT (ownK p (Ls p)))) b = some o := fun b o h n => by
        rw [upd_ne n]
        exact h
      have n1 : ∀ {b : Addr} {xs : List V}, H b = some (.lst xs) → b ≠ d := fun h z => by
        rw [z, hd] at h
        cases h
      have hd1 : upd H d (.frz od (.dT (ownK p (Ls p)))) d = some (.frz od (.dT (ownK p (Ls p)))) := upd_same
      have A2 : PicAt (upd H d (.frz od (.dT (ownK p (Ls p))))) a rs p := ⟨nd _ _ A1.o (n1 A1.o), paired_ext (fun b r h => nd _ _ h (n1 h)) A1.r⟩
      have back : ∀ H', Same (upd H d (.frz od (.dT (ownK p (Ls p))))) H' → Same H (upd H' d (.dT (ownK p (Ls p)))) := fun H' e b o h => by
        by_cases hb : b = d
        · subst hb
          rw [upd_same, ← hd, h]
        · rw [upd_ne hb]
          exact e _ _ (nd _ _ h hb)
      revert hd1 A2 back
      generalize upd H d (.frz od (.dT (ownK p (Ls p)))) = H1
      intro hd1 A2 back
      refine for_it walk_keysT (fun i σ' H' => ∃ v2 v3 v4 v5, σ' = [some (.ref a), some (.ref d), v2, v3, v4, v5] ∧ Same H1 H') ⟨none, none, none, none, rfl, fun _ _ h => h⟩ (fun i σ' H' _ h => by obtain ⟨_, _, _, _, _, e⟩ := h; exact e _ _ hd1) ?_ ?_
      · rintro i x σ' H' H2 hi ⟨v2, v3, v4, v5, rfl, e⟩ ⟨rfl, kk, v, qa, hk, rfl, hqa⟩
        have hk : ((own p (Ls p)).map fun q => (kq q, V.int (who p q : Nat)))[i]? = some (kk, v) := hk
        rw [List.getElem?_map] at hk
        obtain ⟨q, hq, hkq⟩ := Option.map_eq_some_iff.mp hk
        obtain ⟨rfl, rfl⟩ := Prod.mk.inj hkq
        have hqa : H2 qa = some (.tup [.int q.1, .int q.2]) := hqa
        have hqi := mem_own.mp (List.mem_of_getElem? hq)
        refine ⟨_, rfl, _, _, rfl, SqT.of hqa, rfl, _, _, rfl, _, _, rfl, rfl, ?_⟩
        refine ⟨_, rfl, _, _, rfl, rfl, _, rfl, by show 2 ≤ sizeLine; decide, fun t1 ht1 => ?_⟩
        refine ⟨_, rfl, _, rfl, _, _, rfl, rfl, by show 2 ≤ sizeLine; decide, fun t2 ht2 => ?_⟩
        refine ⟨by show 2 ≤ sizeLine; decide, fun l hl => ⟨l, rfl, ⟨_, SqL.of upd_same⟩, ?_⟩⟩
        have z1 := Same.new (o := .tup [.int (q.1 + 1), .int q.2]) ht1
        have z2 := Same.mut (o := .tup [.int q.1, .int (q.2 + 1)]) z1 (Same.free z1 ht2)
        have z3 := Same.mut (o := .lst [.ref t1, .ref t2]) z2 (Same.free z2 hl)
        have p1 := ((PlAt.mk (x := q.1 + 1) (y := q.2) t1 H2).new (o := .tup [.int q.1, .int (q.2 + 1)]) ht2).new (o := .lst [.ref t1, .ref t2]) hl
        have p2 := (PlAt.mk (x := q.1) (y := q.2 + 1) t2 (upd H2 t1 (.tup [.int (q.1 + 1), .int q.2]))).new (o := .lst [.ref t1, .ref t2]) hl
        have hq2 : PlAt (upd (upd (upd H2 t1 (.tup [.int (q.1 + 1), .int q.2])) t2 (.tup [.int q.1, .int (q.2 + 1)])) l (.lst [.ref t1, .ref t2])) qa q := z3 _ _ hqa
        have hl2 : (upd (upd (upd H2 t1 (.tup [.int (q.1 + 1), .int q.2])) t2 (.tup [.int q.1, .int (q.2 + 1)])) l (.lst [.ref t1, .ref t2])) l = some (.lst [.ref t1, .ref t2]) := upd_same
        have e5 : Same H1 (upd (upd (upd H2 t1 (.tup [.int (q.1 + 1), .int q.2])) t2 (.tup [.int q.1, .int (q.2 + 1)])) l (.lst [.ref t1, .ref t2])) := fun b o h => z3 _ _ (e _ _ h)
        revert p1 p2 hq2 hl2 e5
        generalize (upd (upd (upd H2 t1 (.tup [.int (q.1 + 1), .int q.2])) t2 (.tup [.int q.1, .int (q.2 + 1)])) l (.lst [.ref t1, .ref t2])) = H5
        intro p1 p2 hq2 hl2 e5
        have A5 : PicAt H5 a rs p := A2.xt (Same.xt e5)
        have d5 : Rd H5 d (.dT (ownK p (Ls p))) := .inr ⟨od, e5 _ _ hd1⟩
        refine for_list (fun j σ' H' => ∃ v5, σ' = [some (.ref a), some (.ref d), some (.ref qa), some (.int q.1), some (.int q.2), v5] ∧ H' = H5) ⟨v5, rfl, rfl⟩ (fun i σ' H' _ h => by obtain ⟨_, _, rfl⟩ := h; exact SqL.of hl2) ?_ ?_
        · rintro j x σ3 H3 hj ⟨v5, rfl, rfl⟩
          obtain ⟨tr, r, rfl, hr, hnr⟩ : ∃ tr r, x = .ref tr ∧ PlAt H3 tr r ∧ r ∈ near q := by
            match j, hj with
            | 0, hj => exact ⟨t1, _, (Option.some.inj hj).symm, p1, by simp [near]⟩
            | 1, hj => exact ⟨t2, _, (Option.some.inj hj).symm, p2, by simp [near]⟩
          show tIfS _ _ _ _ ([some (.ref a), some (.ref d), some (.ref qa), some (.int q.1), some (.int q.2), some (.ref tr)] : L2.St) H3
          refine s_if (b := decide (r ∈ own p (Ls p)) && (decide (cl p r = cl p q) && !decide ((who p r : Int) = (who p q : Int)))) (an_and (an_din (val_var rfl) (val_var rfl) d5 hr) fun q1 => ?_) (fun hb => ?_) (fun hb => ⟨_, rfl, rfl⟩)
          · have hri := mem_own.mp (of_decide_eq_true q1)
            obtain ⟨rb, row, z1, z2, z3⟩ := A5.cell g hri
            obtain ⟨sb, srow, s1, s2, s3⟩ := A5.cell g hqi
            refine an_and (an_eqI ?_ ?_) fun _ => an_neI ?_ ?_
            · exact vl_ixL (vl_ixL (val_var rfl) (vl_ixT (val_var rfl) val_c (SqT.of hr) (i := 1) rfl) (SqL.of A5.o) z1) (vl_ixT (val_var rfl) val_c (SqT.of hr) (i := 0) rfl) (SqL.of z2) z3
            · exact vl_ixL (vl_ixL (val_var rfl) (val_var rfl) (SqL.of A5.o) s1) (val_var rfl) (SqL.of s2) s3
            · exact vl_dget (f := fun q => .int (who p q : Nat)) (val_var rfl) (val_var rfl) d5 hr (mem_own.mpr hri)
            · exact vl_dget (f := fun q => .int (who p q : Nat)) (val_var rfl) (val_var rfl) d5 hq2 (mem_own.mpr hqi)
          · simp only [Bool.and_eq_true, decide_eq_true_eq, Bool.not_eq_true', decide_eq_false_iff_not] at hb
            have hri := mem_own.mp hb.1
            have := who_eq hqi (.step .refl hnr hri hb.2.1)
            exact absurd (by rw [this]) hb.2.2
        · rintro σ3 H3 ⟨v5, rfl, rfl⟩
          exact ⟨_, _, _, _, rfl, e5⟩
      · rintro σ' H' ⟨v2, v3, v4, v5, rfl, e⟩
        exact ⟨e _ _ hd1, k _ (back _ e)⟩
end
end Cf

set_option Elab.async false
set_option linter.all false
set_option maxRecDepth 100000
set_option maxHeartbeats 8000000
namespace Cf
open PySem PySem.Spec PyProof.Rows L2
/-! ### borders_right -/
theorem vl_dget2 {K : PySem.W.Frag} {σ : L2.St} {H : Hp} {td ty tx : TE} {d b : Addr} {q : Pl} {f : Pl → Int} {z : Int} {l : List Pl} (ha : Val td σ H (.ref d)) (hb : Val ty σ H (.ref b)) (hc : Val tx σ H (.int z)) (hd : Rd H d (.dT (kvsOf (fun q => .int (f q)) l))) (hq : PlAt H b q) :
    Val (tDGet2 td ty tx) σ H (.int (if q ∈ l then f q else z)) := fun Q k => ha _ ⟨d, rfl, .inr ⟨_, hd⟩, hb _ (hc _ ⟨_, rd_get hd hq, by
  by_cases c : q ∈ l
  · rw [if_pos c]
    rw [if_pos c] at k
    exact k
  · rw [if_neg c]
    rw [if_neg c] at k
    exact k⟩)⟩
theorem who_iff {p : Pic} {k : Nat} {s r : Pl} (hk : (Ls p)[k]? = some s) : ((if r ∈ own p (Ls p) then (who p r : Int) else -1) = (k : Int)) ↔ r ∈ reg p s := by
  constructor
  · intro h
    by_cases c : r ∈ own p (Ls p)
    · rw [if_pos c] at h
      have c' := c
      unfold own at c'
      rw [List.mem_flatMap] at c'
      obtain ⟨t, ht, h2⟩ := c'
      obtain ⟨j, hj⟩ := List.mem_iff_getElem?.mp ht
      have e := who_at hj h2
      have : j = k := by omega
      subst this
      rw [hj] at hk
      obtain rfl := Option.some.inj hk
      exact h2
    · rw [if_neg c] at h
      omega
  · intro h
    rw [if_pos (mem_own.mpr (mem_reg.mp h).1), who_at hk h]
theorem eqv_self {d : PyData} {n : Nat} (h : Sh n d) : PyData.eqv d d = true := PySem.SeqAt.eqv_refl d h.1
section
variable {P : Program} {w : World} {K : PySem.W.Frag} {mg : Str → Option Value} {base : Heap} {CP CO CF S a0 a1 a2 a3 c Pt : Addr}
theorem ok_l_borders_right (D : Df K mg "_law_borders_right" s_l_borders_right) (T : Tx K mg CP CO CF S a0 a1 a2 a3) (c_l_whole : Cal P w K mg base CX0 1 "_law_whole" ["_law_found"] spWhole) (c_l_beside : Cal P w K mg base CX0 1 "_law_beside" ["_law_place"] spBeside)
    (c_border_of : Cal P w K mg base CX0 1 "border_of" ["places"] (spBorder K)) : Cal P w K mg base CX0 2 "_law_borders_right" ["_law_owners_here", "_law_found"] spBordersRight := by
  refine cal_of D sc_l_borders_right (fun _ _ _ _ _ _ us hl => match us, hl with | [_, _], _ => rfl) (fun vs H Q E h => ?_) (fun f cdv A outer s H vs Q E hr h => ?_)
  · obtain ⟨l, us, p, d, rfl, _⟩ := h
    rfl
  · obtain ⟨l, us, p, d, rfl, F, g, hd, k⟩ := h
    refine ⟨_, (pss_cons (ps_for PassesOwn.never rfl (pi_range1 (by rfl) T.range (pa_cons (pe_callB (lenK (K := K) rfl) (by rfl) T.len PySem.boot_len (pa_cons (pv 1) pa_nil)) pa_nil)) (pg_name (i := 2) sc_l_borders_right.nd rfl (by first | exact Or.inl rfl | exact Or.inr rfl))
      (pss_cons (ps_set (i := 3) sc_l_borders_right.nd rfl (by first | exact Or.inl rfl | exact Or.inr rfl) pe_int)
      (pss_cons (ps_for PassesOwn.never rfl (pi_list (pe_ix (ixT (K := K) rfl) (pe_ix (ixL (K := K) rfl) (pv 1) (pv 2) (fun _ _ => rfl)) pe_int (fun _ _ => rfl))) (pg_name (i := 4) sc_l_borders_right.nd rfl (by first | exact Or.inl rfl | exact Or.inr rfl))
      (pss_one (ps_set (i := 3) sc_l_borders_right.nd rfl (by first | exact Or.inl rfl | exact Or.inr rfl) (pe_op op_add (pv 3) (pe_callB (lenK (K := K) rfl) (by rfl) T.len PySem.boot_len (pa_cons (pe_lc (own := [("_law_other", 5)]) (g := gName 5) rfl sc_l_borders_right.nd (pi_list (pe_cal c_l_beside hr (by decide) (by rfl) (pa_cons (pv 4) pa_nil))) (blkOk_by (N := N_l_borders_right) (sc := defScope s_l_borders_right) (by decide +kernel)) (fun _ _ _ _ _ => (pg_name (i := 5) sc_l_borders_right.nd rfl (by first | exact Or.inl rfl | exact Or.inr rfl))) (fun _ _ _ _ _ => (pts_one (pt_cmpR op_ne (pe_dget2 (hu_of hr) (pv 0) (pv 5) (pe_un un_neg pe_int) ⟨rfl, rfl, rfl, rfl⟩) (pv 2) (nomark _)))) (fun _ _ _ _ _ => pe_int)) pa_nil))))))
      (pss_cons (ps_set (i := 6) sc_l_borders_right.nd rfl (by first | exact Or.inl rfl | exact Or.inr rfl) (pe_callTy (lstK (K := K) rfl) (by rfl) T.list (by decide +kernel) (pa_cons (pe_ix (ixT (K := K) rfl) (pe_ix (ixL (K := K) rfl) (pv 1) (pv 2) (fun _ _ => rfl)) pe_int (fun _ _ => rfl)) pa_nil)))
      (pss_cons (ps_set (i := 7) sc_l_borders_right.nd rfl (by first | exact Or.inl rfl | exact Or.inr rfl) (pe_cal c_border_of hr (by decide) (by rfl) (pa_cons (pv 6) pa_nil)))
      (pss_one (ps_if (PW.pt (pw_or (pt_not (pt_val (pe_cal c_l_whole hr (by decide) (by rfl) (pa_cons (pv 7) pa_nil)))) (pw_or (pt_cmpR op_ne (pv 7) (pv 3) (nomark _)) (pw_or1 (pt_cmpR (neK (K := K) rfl hr.units) (pv 6) (pe_ix (ixT (K := K) rfl) (pe_ix (ixL (K := K) rfl) (pv 1) (pv 2) (fun _ _ => rfl)) pe_int (fun _ _ => rfl)) (nomark _)))))) (pss_one (ps_ret pe_bl)) pss_nil)))))))
      (pss_one (ps_ret pe_bl))), ?_⟩
    have ll := ls_len g
    have ul := F.len
    have area := g.area
    refine ⟨_, rfl, _, us.length, rfl, .inl ⟨_, SqL.of F.o, by rw [List.length_map]⟩, _, rfl, by omega, by omega, ?_⟩
    refine for_range (fun i σ' H' => ∃ v2 v3 v4 v5 v6 v7, σ' = [some (.ref d), some (.ref l), v2, v3, v4, v5, v6, v7] ∧ Same H H') ⟨none, none, none, none, none, none, rfl, fun _ _ h => h⟩ ?_ ?_
    · rintro i σ' H' hi ⟨v2, v3, v4, v5, v6, v7, rfl, e⟩
      have hi : i < (Ls p).length := by omega
      have hk := List.getElem?_eq_getElem hi
      generalize (Ls p)[i] = s at hk
      obtain ⟨u, h1, R⟩ := F.at hk
      obtain ⟨cs, hl, hp⟩ := R.l
      have rl := reg_len p s
      rw [Int.zero_add]
      refine ⟨_, rfl, _, rfl, _, _, _, _, rfl, rfl, SqL.of (e _ _ F.o), h1, _, _, _, _, rfl, rfl, SqT.of (e _ _ R.t), rfl, u.2, rfl, ⟨_, SqL.of (e _ _ hl)⟩, ?_⟩
      refine for_list (fun j σ' H' => ∃ v4 v5 v6 v7, σ' = [some (.ref d), some (.ref l), some (.int (i : Nat)), some (.int (bcnt (fun r => !decide (r ∈ reg p s)) ((reg p s).take j) : Nat)), v4, v5, v6, v7] ∧ Same H H') ⟨v4, v5, v6, v7, rfl, e⟩
        (fun j σ' H' _ h => by obtain ⟨_, _, _, _, _, e⟩ := h; exact SqL.of (e _ _ hl)) ?_ ?_
      · rintro j x σ3 H3 hj ⟨v4, v5, v6, v7, rfl, e3⟩
        rw [List.getElem?_map] at hj
        obtain ⟨b, hb, rfl⟩ := Option.map_eq_some_iff.mp hj
        obtain ⟨q, hq, hbq⟩ := paired_at hp hb
        refine ⟨_, rfl, _, rfl, b, q, rfl, e3 _ _ hbq, fun H5 nl nbs e5 hnl fnl hnp => ⟨nl, rfl, ⟨_, SqL.of hnl⟩, fun Dl hD => ?_⟩⟩
        have e6 : Same H H5 := fun b o h => e5 _ _ (e3 _ _ h)
        refine lc_list (K := K) (xs := nbs.map V.ref) (fun i H' => Same H5 H' ∧ H' Dl = some (.lst (List.replicate (((near q).take i).countP (fun r => !decide (r ∈ reg p s))) (.int 1)))) ⟨Same.new hD, upd_same⟩
          (fun i H' _ h => SqL.of (h.1 _ _ hnl)) ?_ ?_
        · rintro m x H7 hm ⟨e7, h7⟩
          rw [List.getElem?_map] at hm
          obtain ⟨br, hbr, rfl⟩ := Option.map_eq_some_iff.mp hm
          obtain ⟨r, hr, hbr2⟩ := paired_at hnp hbr
          refine ⟨rfl, ?_⟩
          refine an_neI (i := if r ∈ own p (Ls p) then (who p r : Int) else -1) (j := (i : Nat)) ?_ (val_var rfl) _ ?_
          · exact vl_dget2 (K := K) (f := fun q => (who p q : Nat)) (z := -1) (val_var rfl) (val_var rfl) (vl_neg (i := 1) val_c) (.inl (e7 _ _ (e6 _ _ hd))) (show PlAt H7 br r from e7 _ _ hbr2)
          · have ht := take_snoc hr
            have hw := who_iff (r := r) hk
            by_cases c : r ∈ reg p s
            · rw [decide_eq_true (hw.mpr c)]
              refine iteF ⟨e7, ?_⟩
              rw [ht, countP_snoc, decide_eq_true c]
              exact h7
            · rw [decide_eq_false fun z => c (hw.mp z)]
              refine iteT ⟨_, h7, ?_, ?_, ?_⟩
              · rw [List.length_replicate]
                refine small1000 (Nat.le_trans (List.countP_le_length) ?_)
                rw [List.length_take]
                have : (near q).length = 4 := rfl
                omega
              · exact Same.mut e7 hD
              · rw [upd_same, ht, countP_snoc, decide_eq_false c]
                show some (HO.lst (List.replicate _ _ ++ [V.int 1])) = some (HO.lst (List.replicate (_ + 1) _))
                rw [List.replicate_succ']
        · rintro H7 ⟨e7, h7⟩
          rw [List.length_map, Paired.length hnp, List.take_length] at h7
          refine ⟨_, _, rfl, .inl ⟨_, SqL.of h7, by rw [List.length_replicate]⟩, _, _, rfl, rfl, ?_⟩
          refine ⟨some (.ref b), v5, v6, v7, ?_, fun b o h => e7 _ _ (e6 _ _ h)⟩
          rw [take_snoc hq, bcnt_snoc]
          rfl
      · rintro σ3 H3 ⟨v4, v5, v6, v7, rfl, e3⟩
        rw [List.length_map, Paired.length hp, List.take_length]
        refine ⟨_, rfl, _, rfl, _, _, _, _, rfl, rfl, SqL.of (e3 _ _ F.o), h1, _, _, _, _, rfl, rfl, SqT.of (e3 _ _ R.t), rfl, _, _, rfl, .inl (SqL.of (e3 _ _ hl)), fun ha hha => ?_⟩
        have e4 : Same H (upd H3 ha (.lst (cs.map V.ref))) := Same.mut e3 (Same.free e3 hha)
        refine ⟨_, rfl, ha, cs, reg p s, rfl, upd_same, PlsAt.same hp e4, by omega, fun H7 e7 => ?_⟩
        have e8 : Same H H7 := fun b o h => e7 _ _ (e4 _ _ h)
        refine ⟨_, rfl, _, rfl, true, rfl, iteF ?_⟩
        refine ⟨_, rfl, _, rfl, rfl, _, rfl, ?_⟩
        show (if (!decide (V.int (border (reg p s) : Nat) = V.int (border (reg p s) : Nat))) = true then _ else _)
        rw [decide_eq_true rfl]
        refine iteF ?_
        refine ⟨_, rfl, _, rfl, _, rfl, _, _, _, _, rfl, rfl, SqL.of (e8 _ _ F.o), h1, _, _, _, _, rfl, rfl, SqT.of (e8 _ _ R.t), rfl, dPls (reg p s), dPls (reg p s), dp_pls (e7 _ _ upd_same) (PlsAt.same hp e8), dp_pls (e8 _ _ hl) (PlsAt.same hp e8), (sh_pls _).shaped (by decide), (sh_pls _).shaped (by decide), _, rfl, ?_⟩
        rw [eqv_self (sh_pls _)]
        exact iteF ⟨_, _, _, _, _, _, rfl, e8⟩
    · rintro σ' H' ⟨v2, v3, v4, v5, v6, v7, rfl, e⟩
      exact k H' e
end
end Cf

set_option Elab.async false
set_option linter.all false
set_option maxRecDepth 100000
set_option maxHeartbeats 8000000
namespace Cf
open PySem PySem.Spec PyProof.Rows L2
/-! ### the drawn picture -/
section
variable {K : PySem.W.Frag} {σ : L2.St} {H : Hp} {ta tb : TE} {i j : Int}
theorem mul_r {a b : Int} (h : b.natAbs ≤ 1000000) : IntMulOk a b := IntMulOk.of_right (bits_small (Nat.lt_of_le_of_lt h (by decide)))
theorem mul_l {a b : Int} (h : a.natAbs ≤ 1000000) : IntMulOk a b := IntMulOk.of_left (bits_small (Nat.lt_of_le_of_lt h (by decide)))
theorem vl_add (ha : Val ta σ H (.int i)) (hb : Val tb σ H (.int j)) : Val (tOp (rI0 fun i j => .int (i + j)) ta tb) σ H (.int (i + j)) := fun Q q => ha _ (hb _ ⟨i, j, rfl, rfl, q⟩)
theorem vl_mod (ha : Val ta σ H (.int i)) (hb : Val tb σ H (.int j)) (hc : 0 < j) : Val (tOp (rI (fun _ j => 0 < j) fun i j => .int (i % j)) ta tb) σ H (.int (i % j)) := fun Q q => ha _ (hb _ ⟨i, j, rfl, rfl, hc, q⟩)
theorem vl_div (ha : Val ta σ H (.int i)) (hb : Val tb σ H (.int j)) (hc : 0 < j ∧ j < 1073741824) : Val (tOp (rI CDiv fun i j => .int (i / j)) ta tb) σ H (.int (i / j)) := fun Q q => ha _ (hb _ ⟨i, j, rfl, rfl, hc, q⟩)
theorem vl_mul (ha : Val ta σ H (.int i)) (hb : Val tb σ H (.int j)) (hc : IntMulOk i j) : Val (tOp (rI IntMulOk fun i j => .int (i * j)) ta tb) σ H (.int (i * j)) := fun Q q => ha _ (hb _ ⟨i, j, rfl, rfl, hc, q⟩)
theorem vl_min (ha : Val ta σ H (.int i)) (hb : Val tb σ H (.int j)) : Val (tCB (fun xs H Q => ∃ i j, xs = [V.int i, V.int j] ∧ Q (.int (if j < i then j else i)) H) (tCons ta (tCons tb tNil))) σ H (.int (if j < i then j else i)) := fun Q q => ha _ (hb _ ⟨i, j, rfl, q⟩)
theorem s_ifJ {t : TT} {t1 t2 : TS} {D : Ends} {b : Bool} (Pst : L2.St → Prop) (h : Ans t σ H b) (h1 : (∀ σ', Pst σ' → D.nx σ' H) → t1 D σ H) (h2 : (∀ σ', Pst σ' → D.nx σ' H) → t2 D σ H) (k : ∀ σ', Pst σ' → D.nx σ' H) : tIfS t t1 t2 D σ H := s_if h (fun _ => h1 k) (fun _ => h2 k)
end
theorem at_ints {ns : List Int} {i : Int} (h0 : 0 ≤ i) (h1 : i < (ns.length : Int)) : ∃ m ∈ ns, atI (ns.map V.int) i = some (.int m) := by
  have hi : i.toNat < ns.length := by omega
  have e : i = (i.toNat : Int) := (Int.toNat_of_nonneg h0).symm
  have z : atI (ns.map V.int) (i.toNat : Int) = some (.int ns[i.toNat]) := atI_nat (by
    rw [List.getElem?_map, List.getElem?_eq_getElem hi]
    rfl)
  rw [← e] at z
  exact ⟨_, List.getElem_mem hi, z⟩
theorem zero_fn (j : Nat) : (fun i : Nat => V.int ((0 : Int) + (i : Int))) j = V.int (j : Int) := by
  show V.int (0 + (j : Int)) = _
  rw [Int.zero_add]
theorem mod16 (x : Int) : 0 ≤ x % 16 ∧ x % 16 ≤ 15 := by omega
/-- rows drawn so far -/
structure Drawn (H : Hp) (l : Addr) (w y : Nat) : Prop where
  x : ∃ (rs : List Addr) (p : Pic), H l = some (.lst (rs.map V.ref)) ∧ Paired (fun b row => b ≠ l ∧ H b = some (.lst ((row : List Int).map V.int))) rs p ∧ p.length = y ∧ ∀ r ∈ p, r.length = w ∧ ∀ c ∈ r, (0 : Int) ≤ c ∧ c ≤ 15
theorem Drawn.same {H H' : Hp} {l : Addr} {w y : Nat} (D : Drawn H l w y) (e : Same H H') : Drawn H' l w y := by
  obtain ⟨rs, p, h1, h2, h3⟩ := D.x
  exact ⟨rs, p, e _ _ h1, paired_ext (fun _ _ q => ⟨q.1, e _ _ q.2⟩) h2, h3⟩
theorem Drawn.o {H : Hp} {l : Addr} {w y : Nat} (D : Drawn H l w y) : ∃ xs, H l = some (.lst xs) ∧ xs.length = y := by
  obtain ⟨rs, p, h1, h2, h3, _⟩ := D.x
  exact ⟨_, h1, by rw [List.length_map, Paired.length h2, h3]⟩
theorem Drawn.put {H : Hp} {l b : Addr} {w y : Nat} {xs : List V} {row : List Int} (D : Drawn H l w y) (hl : H l = some (.lst xs)) (hb : H b = some (.lst (row.map V.int))) (n : b ≠ l) (hw : row.length = w) (hc : ∀ c ∈ row, (0 : Int) ≤ c ∧ c ≤ 15) : Drawn (upd H l (.lst (xs ++ [.ref b]))) l w (y + 1) := by
  obtain ⟨rs, p, h1, h2, h3, h4⟩ := D.x
  rw [hl] at h1
  obtain rfl := HO.lst.inj (Option.some.inj h1)
  refine ⟨rs ++ [b], p ++ [row], by rw [upd_same, List.map_append]; rfl, paired_app (paired_ext (fun _ _ q => ⟨q.1, by rw [upd_ne q.1]; exact q.2⟩) h2) (.cons ⟨n, by rw [upd_ne n]; exact hb⟩ .nil), by rw [List.length_append, h3]; rfl, fun r hr => ?_⟩
  rcases List.mem_append.mp hr with hr | hr
  · exact h4 r hr
  · rw [List.mem_singleton] at hr
    subst hr
    exact ⟨hw, hc⟩
theorem Drawn.pic {H : Hp} {l : Addr} {w y : Nat} (D : Drawn H l w y) (w1 : 1 ≤ w) (w2 : w ≤ 24) (y1 : 1 ≤ y) (y2 : y ≤ 24) : ∃ rs p, PicAt H l rs p ∧ Good p := by
  obtain ⟨rs, p, h1, h2, h3, h4⟩ := D.x
  obtain ⟨r, p', rfl⟩ : ∃ r p', p = r :: p' := by
    cases p with
    | nil => simp at h3; omega
    | cons r p' => exact ⟨r, p', rfl⟩
  have hw : wd (r :: p') = w := (h4 r List.mem_cons_self).1
  have hh : hg (r :: p') = y := h3
  exact ⟨rs, r :: p', ⟨h1, paired_ext (fun _ _ q => q.2) h2⟩, by rw [hh]; exact y1, by rw [hh]; exact y2, by rw [hw]; exact w1, by rw [hw]; exact w2, fun r hr => by rw [hw]; exact (h4 r hr).1, fun r hr => (h4 r hr).2⟩
def spPicture (K : PySem.W.Frag) : Sp := fun vs H Q _ => ∃ a xs, vs = [.ref a, .int 3, .int 7] ∧ Scr K H a xs ∧ ∀ H' l rs p, Same H H' → PicAt H' l rs p → Good p → Q (.ref l) H'
def spGreat (K : PySem.W.Frag) : Sp := fun vs H Q _ => ∃ a xs, vs = [.ref a] ∧ Scr K H a xs ∧ ∀ H' l rs p, Same H H' → PicAt H' l rs p → Good p → Q (.ref l) H'
section
variable {P : Program} {w : World} {K : PySem.W.Frag} {mg : Str → Option Value} {base : Heap} {CP CO CF S a0 a1 a2 a3 c Pt : Addr}
theorem ok_l_picture (D : Df K mg "_law_picture" s_l_picture) (T : Tx K mg CP CO CF S a0 a1 a2 a3) (c_l_mixed : Cal P w K mg base CX0 2 "_law_mixed" ["_law_script", "_law_k"] (spMixed K)) : Cal P w K mg base CX0 3 "_law_picture" ["_law_script", "_law_at", "_law_most"] (spPicture K) := by
  refine cal_of D sc_l_picture (fun _ _ _ _ _ _ us hl => match us, hl with | [_, _, _], _ => rfl) (fun vs H Q E h => ?_) (fun f cdv A outer s H vs Q E hr h => ?_)
  · obtain ⟨a, xs, rfl, _⟩ := h
    rfl
  · obtain ⟨a, xs, rfl, hs, k⟩ := h
    refine ⟨_, (pss_cons (ps_set (i := 3) sc_l_picture.nd rfl (by first | exact Or.inl rfl | exact Or.inr rfl) (pe_cal c_l_mixed hr (by decide) (by rfl) (pa_cons (pv 0) (pa_cons (pv 1) pa_nil))))
      (pss_cons (ps_set (i := 4) sc_l_picture.nd rfl (by first | exact Or.inl rfl | exact Or.inr rfl) (pe_op op_add pe_int (pe_op op_mod (pv 3) (pv 2))))
      (pss_cons (ps_set (i := 5) sc_l_picture.nd rfl (by first | exact Or.inl rfl | exact Or.inr rfl) (pe_op op_add pe_int (pe_op op_mod (pe_op op_fdiv (pv 3) pe_int) (pv 2))))
      (pss_cons (ps_if (pt_cmpR op_eq (pe_op op_mod (pe_op op_fdiv (pv 3) pe_int) pe_int) pe_int (nomark _)) (pss_one (ps_par (i := 4) (j := 5) (by rfl) sc_l_picture.nd rfl rfl (by decide) rfl rfl (pa_cons (pe_op op_add pe_int (pe_op op_mod (pe_op op_fdiv (pv 3) pe_int) pe_int)) (pa_cons (pe_callB (call_min2 rfl) (by rfl) T.min (by decide +kernel) (pa_cons (pv 5) (pa_cons pe_int pa_nil))) pa_nil)) (by rfl))) pss_nil)
      (pss_cons (ps_if (pt_cmpR op_eq (pe_op op_mod (pe_op op_fdiv (pv 3) pe_int) pe_int) pe_int (nomark _)) (pss_one (ps_par (i := 4) (j := 5) (by rfl) sc_l_picture.nd rfl rfl (by decide) rfl rfl (pa_cons (pe_callB (call_min2 rfl) (by rfl) T.min (by decide +kernel) (pa_cons (pv 4) (pa_cons pe_int pa_nil))) (pa_cons (pe_op op_add pe_int (pe_op op_mod (pe_op op_fdiv (pv 3) pe_int) pe_int)) pa_nil)) (by rfl))) pss_nil)
      (pss_cons (ps_set (i := 6) sc_l_picture.nd rfl (by first | exact Or.inl rfl | exact Or.inr rfl) (pe_ix (ixL (K := K) rfl) (pe_lst (pa_cons pe_int (pa_cons pe_int (pa_cons pe_int (pa_cons pe_int (pa_cons pe_int (pa_cons pe_int pa_nil))))))) (pe_op op_mod (pe_op op_fdiv (pv 3) pe_int) pe_int) (fun _ _ => rfl)))
      (pss_cons (ps_set (i := 7) sc_l_picture.nd rfl (by first | exact Or.inl rfl | exact Or.inr rfl) (pe_ix (ixL (K := K) rfl) (pe_lst (pa_cons pe_int (pa_cons pe_int (pa_cons pe_int (pa_cons pe_int (pa_cons pe_int (pa_cons pe_int (pa_cons pe_int (pa_cons pe_int pa_nil))))))))) (pe_op op_mod (pe_op op_fdiv (pv 3) pe_int) pe_int) (fun _ _ => rfl)))
      (pss_cons (ps_set (i := 8) sc_l_picture.nd rfl (by first | exact Or.inl rfl | exact Or.inr rfl) (pe_lst pa_nil))
      (pss_cons (ps_for PassesOwn.never rfl (pi_range1 (by rfl) T.range (pa_cons (pv 5) pa_nil)) (pg_name (i := 9) sc_l_picture.nd rfl (by first | exact Or.inl rfl | exact Or.inr rfl))
      (pss_cons (ps_set (i := 10) sc_l_picture.nd rfl (by first | exact Or.inl rfl | exact Or.inr rfl) (pe_op op_add (pe_cal c_l_mixed hr (by decide) (by rfl) (pa_cons (pv 0) (pa_cons (pe_op op_add (pe_op op_add (pv 1) pe_int) (pe_op op_mod (pv 9) pe_int)) pa_nil))) (pe_op op_mulS (pe_op op_mulS pe_int (pv 9)) (pv 9))))
      (pss_cons (ps_setLc (i := 11) (own := [("_law_x", 12)]) (g := gName 12) (tt := tYes) rfl sc_l_picture.nd rfl rfl (sw_true rfl rfl rfl (by decide +kernel)) (pi_range1 (by rfl) T.range (pa_cons (pv 4) pa_nil)) (blkOk_by (N := N_l_picture) (sc := defScope s_l_picture) (by decide +kernel)) (fun _ _ _ _ _ => (pg_name (i := 12) sc_l_picture.nd rfl (by first | exact Or.inl rfl | exact Or.inr rfl))) (fun _ _ _ _ _ => pts_nil) (fun _ _ _ _ _ => (pe_op op_mod (pe_op op_fdiv (pe_op op_mod (pe_op op_mulS (pv 10) (pe_op op_add (pe_op op_add (pe_op op_mulS (pv 12) (pv 12)) (pe_op op_mulS pe_int (pv 12))) pe_int)) pe_int) pe_int) (pv 6))))
      (pss_one (ps_expr (pe_bm PySem.F.plainAttrs_list PySem.F.slot_list_append PySem.F.type_list_append mt_append (pv 8) (pa_cons (pe_lc (own := [("_law_cell_here", 13)]) (g := gName 13) (tt := tYes) rfl sc_l_picture.nd (pi_list (pv 11)) (blkOk_by (N := N_l_picture) (sc := defScope s_l_picture) (by decide +kernel)) (fun _ _ _ _ _ => (pg_name (i := 13) sc_l_picture.nd rfl (by first | exact Or.inl rfl | exact Or.inr rfl))) (fun _ _ _ _ _ => pts_nil) (fun _ _ _ _ _ => (pe_op op_mod (pe_op op_add (pe_op op_fdiv (pv 3) pe_int) (pe_op op_mulS (pv 13) (pv 7))) pe_int))) pa_nil)))))))
      (pss_one (ps_ret (pv 8)))))))))))), ?_⟩
    refine ⟨_, rfl, _, rfl, a, xs, 3, rfl, hs, by decide, by decide, fun n n0 n1 => ?_⟩
    refine s_set (vl_add val_c (vl_mod (val_var rfl) (val_var rfl) (by decide))) ?_
    refine s_set (vl_add val_c (vl_mod (vl_div (val_var rfl) val_c ⟨by decide, by decide⟩) (val_var rfl) (by decide))) ?_
    refine go_seq ?_
    refine s_ifJ (fun σ' => ∃ ww hh : Int, σ' = [some (.ref a), some (.int 3), some (.int 7), some (.int n), some (.int ww), some (.int hh), none, none, none, none, none, none, none, none] ∧ 1 ≤ ww ∧ ww ≤ 24 ∧ 1 ≤ hh ∧ hh ≤ 24)
      (an_eqI (vl_mod (vl_div (val_var rfl) val_c ⟨by decide, by decide⟩) val_c (by decide)) val_c) (fun k => ?_) (fun k => ?_) ?_
    · refine s_par (vl_add val_c (vl_mod (vl_div (val_var rfl) val_c ⟨by decide, by decide⟩) val_c (by decide))) (vl_min (val_var rfl) val_c) (k _ ⟨_, _, rfl, ?_⟩)
      omega
    · exact k _ ⟨_, _, rfl, by omega⟩
    rintro σ1 ⟨ww, hh, rfl, w1, w2, h1, h2⟩
    dsimp only
    refine go_seq ?_
    refine s_ifJ (fun σ' => ∃ ww hh : Int, σ' = [some (.ref a), some (.int 3), some (.int 7), some (.int n), some (.int ww), some (.int hh), none, none, none, none, none, none, none, none] ∧ 1 ≤ ww ∧ ww ≤ 24 ∧ 1 ≤ hh ∧ hh ≤ 24)
      (an_eqI (vl_mod (vl_div (val_var rfl) val_c ⟨by decide, by decide⟩) val_c (by decide)) val_c) (fun k => ?_) (fun k => ?_) ?_
    · refine s_par (vl_min (val_var rfl) val_c) (vl_add val_c (vl_mod (vl_div (val_var rfl) val_c ⟨by decide, by decide⟩) val_c (by decide))) (k _ ⟨_, _, rfl, ?_⟩)
      omega
    · exact k _ ⟨_, _, rfl, by omega⟩
    clear w1 w2 h1 h2 ww hh
    rintro σ1 ⟨ww, hh, rfl, w1, w2, h1, h2⟩
    dsimp only
    refine ⟨by show 6 ≤ sizeLine; decide, fun t1 ht1 => ?_⟩
    have z1 := Same.new (o := .lst [.int 2, .int 3, .int 2, .int 16, .int 1, .int 2]) ht1
    obtain ⟨m, hm, em⟩ := at_ints (ns := [2, 3, 2, 16, 1, 2]) (i := n / 360000 % 6) (by omega) (by show _ < (6 : Int); omega)
    have m1 : 1 ≤ m := by
      simp only [List.mem_cons, List.not_mem_nil, or_false] at hm
      omega
    refine ⟨_, rfl, _, _, rfl, rfl, ⟨by decide, by decide⟩, _, _, rfl, rfl, (by decide : (0 : Int) < 6), _, _, _, _, rfl, rfl, SqL.of upd_same, em, ?_⟩
    refine ⟨by show 8 ≤ sizeLine; decide, fun t2 ht2 => ?_⟩
    have z2 := Same.mut (o := .lst [.int 1, .int 3, .int 5, .int 7, .int 9, .int 11, .int 13, .int 15]) z1 (Same.free z1 ht2)
    obtain ⟨st, hst, est⟩ := at_ints (ns := [1, 3, 5, 7, 9, 11, 13, 15]) (i := n / 17 % 8) (by omega) (by show _ < (8 : Int); omega)
    have s1 : st.natAbs ≤ 1000000 := by
      simp only [List.mem_cons, List.not_mem_nil, or_false] at hst
      omega
    refine ⟨_, rfl, _, _, rfl, rfl, ⟨by decide, by decide⟩, _, _, rfl, rfl, (by decide : (0 : Int) < 8), _, _, _, _, rfl, rfl, SqL.of upd_same, est, ?_⟩
    refine ⟨by show 0 ≤ sizeLine; decide, fun l hl => ?_⟩
    have z3 := Same.mut (o := .lst []) z2 (Same.free z2 hl)
    have D0 : Drawn (upd (upd (upd H t1 (.lst [.int 2, .int 3, .int 2, .int 16, .int 1, .int 2])) t2 (.lst [.int 1, .int 3, .int 5, .int 7, .int 9, .int 11, .int 13, .int 15])) l (.lst [])) l ww.toNat 0 := ⟨[], [], upd_same, .nil, rfl, fun r hr => nomatch hr⟩
    have fl := Same.free z2 hl
    refine ⟨_, rfl, _, rfl, by omega, by omega, ?_⟩
    refine for_range (fun i σ' H' => ∃ v9 v10 v11 v12 v13, σ' = [some (.ref a), some (.int 3), some (.int 7), some (.int n), some (.int ww), some (.int hh), some (.int m), some (.int st), some (.ref l), v9, v10, v11, v12, v13] ∧ Same H H' ∧ Drawn H' l ww.toNat i)
      ⟨none, none, none, none, none, rfl, z3, D0⟩ ?_ ?_
    · rintro i σ' H' hi ⟨v9, v10, v11, v12, v13, rfl, e, Dr⟩
      rw [Int.zero_add]
      have hi24 : i < 24 := by omega
      refine ⟨_, rfl, _, rfl, _, _, rfl, rfl, _, rfl, _, _, rfl, rfl, (by decide : (0 : Int) < 10), _, _, rfl, rfl, a, xs, _, rfl, hs.xt (Same.xt e), by omega, by omega, fun n2 n3 n4 => ?_⟩
      refine ⟨_, rfl, _, _, rfl, rfl, mul_l (by decide), _, rfl, _, _, rfl, rfl, mul_r (by omega), _, _, rfl, rfl, ?_⟩
      refine ⟨_, rfl, _, rfl, by omega, by omega, fun Dl hD => ?_⟩
      refine lc_it walk_range (fun j H2 => Same H' H2 ∧ ∃ ds : List Int, ds.length = j ∧ H2 Dl = some (.lst (ds.map V.int))) ⟨Same.new hD, [], rfl, upd_same⟩ (fun _ _ _ _ => trivial) ?_ ?_
      · rintro j x H2 H3 hj ⟨e2, ds, hds, hd⟩ ⟨rfl, rfl⟩
        rw [zero_fn j]
        refine ⟨rfl, tyes_go ?_⟩
        refine ⟨_, rfl, _, rfl, _, rfl, _, _, rfl, rfl, mul_r (by omega), _, rfl, _, _, rfl, rfl, mul_l (by decide), _, _, rfl, rfl, _, _, rfl, rfl, _, _, rfl, rfl, ?_, _, _, rfl, rfl, (by decide : (0 : Int) < 1000003), _, _, rfl, rfl, ⟨by decide, by decide⟩, _, rfl, _, _, rfl, rfl, (by omega : 0 < m), ds.map V.int, hd, ?_, Same.mut e2 hD, ds ++ [(n2 + 611 * (i : Int) * (i : Int)) * ((j : Int) * (j : Int) + 3 * (j : Int) + 7) % 1000003 / 11 % m], ?_, ?_⟩
        · refine mul_r ?_
          have q1 : ((j : Int) * (j : Int)) = ((j * j : Nat) : Int) := by rw [Int.natCast_mul]
          have q2 : j * j ≤ 24 * 24 := Nat.mul_le_mul (by omega) (by omega)
          rw [q1]
          omega
        · rw [List.length_map, hds]
          exact small1000 (by omega)
        · rw [List.length_append, hds]
          rfl
        · rw [upd_same, List.map_append]
          rfl
      · rintro H2 ⟨e2, ds, hds, hd⟩
        have Dr2 := Dr.same e2
        obtain ⟨ys, hy, hyl⟩ := Dr2.o
        refine ⟨_, rfl, .inl ⟨rfl, _, SqL.of hy⟩, ?_⟩
        refine ⟨_, rfl, Dl, rfl, ⟨_, SqL.of hd⟩, fun D2 hD2 => ?_⟩
        have nD2 : D2 ≠ l := Ne.symm (ne_of_none hy hD2)
        refine lc_list (K := K) (xs := ds.map V.int) (fun j H3 => Same H2 H3 ∧ ∃ row : List Int, row.length = j ∧ (∀ c ∈ row, (0 : Int) ≤ c ∧ c ≤ 15) ∧ H3 D2 = some (.lst (row.map V.int))) ⟨Same.new hD2, [], rfl, fun c hc => (nomatch hc), upd_same⟩
          (fun j H3 _ h => SqL.of (h.1 _ _ hd)) ?_ ?_
        · rintro j x H3 hj ⟨e3, row, hrow, hc, hd3⟩
          rw [List.getElem?_map] at hj
          obtain ⟨dv, hdv, rfl⟩ := Option.map_eq_some_iff.mp hj
          have hjl := (List.getElem?_eq_some_iff.mp hdv).1
          refine ⟨rfl, tyes_go ?_⟩
          refine ⟨_, rfl, _, _, rfl, rfl, ⟨by decide, by decide⟩, _, rfl, _, rfl, _, _, rfl, rfl, mul_r s1, _, _, rfl, rfl, _, _, rfl, rfl, (by decide : (0 : Int) < 16), row.map V.int, hd3, ?_, Same.mut e3 hD2, row ++ [(n / 131 + dv * st) % 16], ?_, ?_, ?_⟩
          · rw [List.length_map, hrow]
            exact small1000 (by omega)
          · rw [List.length_append, hrow]
            rfl
          · intro c hcm
            rcases List.mem_append.mp hcm with hcm | hcm
            · exact hc c hcm
            · rw [List.mem_singleton] at hcm
              subst hcm
              exact mod16 _
          · rw [upd_same, List.map_append]
            rfl
        · rintro H3 ⟨e3, row, hrow, hc, hd3⟩
          have Dr3 := Dr2.same e3
          have hy3 := e3 _ _ hy
          refine ⟨l, ys, _, rfl, rfl, hy3, ?_, ?_⟩
          · rw [hyl]
            exact small1000 (by omega)
          · have e4 : Same H H3 := fun b o h => e3 _ _ (e2 _ _ (e _ _ h))
            refine ⟨_, _, _, _, _, rfl, Same.mut e4 fl, Dr3.put hy3 hd3 nD2 ?_ hc⟩
            rw [hrow, List.length_map, hds]
    · rintro σ' H' ⟨v9, v10, v11, v12, v13, rfl, e, Dr⟩
      obtain ⟨rs, p, A1, g⟩ := Dr.pic (by omega) (by omega) (by omega) (by omega)
      exact ⟨_, rfl, k H' l rs p e A1 g⟩
end
end Cf

set_option Elab.async false
set_option linter.all false
set_option maxRecDepth 100000
set_option maxHeartbeats 8000000
namespace Cf
open PySem PySem.Spec PyProof.Rows L2
/-! ### the great picture -/
theorem s_ifJ2 {σ : L2.St} {H : Hp} {t : TT} {t1 t2 : TS} {D : Ends} {b : Bool} (Pst : L2.St → Hp → Prop) (h : Ans t σ H b) (h1 : (∀ σ' H', Pst σ' H' → D.nx σ' H') → t1 D σ H) (h2 : (∀ σ' H', Pst σ' H' → D.nx σ' H') → t2 D σ H) (k : ∀ σ' H', Pst σ' H' → D.nx σ' H') : tIfS t t1 t2 D σ H := s_if h (fun _ => h1 k) (fun _ => h2 k)
theorem flat_rep (k : Nat) (v : V) : (List.replicate k [v]).flatten = List.replicate k v := by
  induction k with
  | zero => rfl
  | succ k ih => rw [List.replicate_succ, List.flatten_cons, ih, List.replicate_succ]; rfl
theorem map_rep (k : Nat) (v : Int) : (List.replicate k v).map V.int = List.replicate k (V.int v) := List.map_replicate
theorem ixN_of {n j : Nat} (hj : j < n) : ixN n (j : Int) = some j := by
  unfold ixN
  rw [if_pos (by omega), if_pos (by omega), Int.toNat_natCast]
theorem sq_ok {a : Int} {j : Nat} (h : j < 24) : IntMulOk a ((j : Int) * (j : Int) + 3 * (j : Int) + 7) := by
  refine mul_r ?_
  have q1 : ((j : Int) * (j : Int)) = ((j * j : Nat) : Int) := by rw [Int.natCast_mul]
  have q2 : j * j ≤ 24 * 24 := Nat.mul_le_mul (by omega) (by omega)
  rw [q1]
  omega
/-- a row of that width -/
def RowOk (H : Hp) (r : Addr) (w : Nat) : Prop := ∃ row : List Int, H r = some (.lst (row.map V.int)) ∧ row.length = w ∧ ∀ c ∈ row, (0 : Int) ≤ c ∧ c ≤ 15
section
variable {P : Program} {w : World} {K : PySem.W.Frag} {mg : Str → Option Value} {base : Heap} {CP CO CF S a0 a1 a2 a3 c Pt : Addr}
theorem ok_l_great (D : Df K mg "_law_great" s_l_great) (T : Tx K mg CP CO CF S a0 a1 a2 a3) (c_l_mixed : Cal P w K mg base CX0 2 "_law_mixed" ["_law_script", "_law_k"] (spMixed K)) : Cal P w K mg base CX0 3 "_law_great" ["_law_script"] (spGreat K) := by
  refine cal_of D sc_l_great (fun _ _ _ _ _ _ us hl => match us, hl with | [_], _ => rfl) (fun vs H Q E h => ?_) (fun f cdv A outer s H vs Q E hr h => ?_)
  · obtain ⟨a, xs, rfl, _⟩ := h
    rfl
  · obtain ⟨a, xs, rfl, hs, k⟩ := h
    refine ⟨_, (pss_cons (ps_set (i := 1) sc_l_great.nd rfl (by first | exact Or.inl rfl | exact Or.inr rfl) (pe_cal c_l_mixed hr (by decide) (by rfl) (pa_cons (pv 0) (pa_cons pe_int pa_nil))))
      (pss_cons (ps_par (i := 2) (j := 3) (by rfl) sc_l_great.nd rfl rfl (by decide) rfl rfl (pa_cons (pe_op op_add pe_int (pe_op op_mod (pv 1) pe_int)) (pa_cons (pe_op op_add pe_int (pe_op op_mod (pe_op op_fdiv (pv 1) pe_int) pe_int)) pa_nil)) (by rfl))
      (pss_cons (ps_set (i := 4) sc_l_great.nd rfl (by first | exact Or.inl rfl | exact Or.inr rfl) (pe_op op_mod (pe_op op_fdiv (pv 1) pe_int) pe_int))
      (pss_cons (ps_set (i := 5) sc_l_great.nd rfl (by first | exact Or.inl rfl | exact Or.inr rfl) (pe_op op_mod (pe_op op_add (pe_op op_add (pv 4) pe_int) (pe_op op_mod (pe_op op_fdiv (pv 1) pe_int) pe_int)) pe_int))
      (pss_cons (ps_set (i := 6) sc_l_great.nd rfl (by first | exact Or.inl rfl | exact Or.inr rfl) (pe_lst pa_nil))
      (pss_cons (ps_for PassesOwn.never rfl (pi_range1 (by rfl) T.range (pa_cons (pv 3) pa_nil)) (pg_name (i := 7) sc_l_great.nd rfl (by first | exact Or.inl rfl | exact Or.inr rfl))
      (pss_cons (ps_set (i := 8) sc_l_great.nd rfl (by first | exact Or.inl rfl | exact Or.inr rfl) (pe_op op_add (pe_cal c_l_mixed hr (by decide) (by rfl) (pa_cons (pv 0) (pa_cons (pe_op op_add pe_int (pe_op op_mod (pv 7) pe_int)) pa_nil))) (pe_op op_mulS (pe_op op_mulS pe_int (pv 7)) (pv 7))))
      (pss_cons (ps_set (i := 9) sc_l_great.nd rfl (by first | exact Or.inl rfl | exact Or.inr rfl) (pe_op op_rep (pe_lst (pa_cons (pv 4) pa_nil)) (pv 2)))
      (pss_cons (ps_if (pt_cmpR op_eq (pe_op op_mod (pe_op op_fdiv (pv 1) pe_int) pe_int) pe_int (nomark _)) (pss_one (ps_setLc (i := 9) (own := [("_law_x", 10)]) (g := gName 10) (tt := tYes) rfl sc_l_great.nd rfl rfl (sw_true rfl rfl rfl (by decide +kernel)) (pi_range1 (by rfl) T.range (pa_cons (pv 2) pa_nil)) (blkOk_by (N := N_l_great) (sc := defScope s_l_great) (by decide +kernel)) (fun _ _ _ _ _ => (pg_name (i := 10) sc_l_great.nd rfl (by first | exact Or.inl rfl | exact Or.inr rfl))) (fun _ _ _ _ _ => pts_nil) (fun _ _ _ _ _ => (pe_ix (ixL (K := K) rfl) (pe_lst (pa_cons (pv 4) (pa_cons (pv 5) pa_nil))) (pe_op op_fdiv (pe_op op_mod (pe_op op_fdiv (pe_op op_mod (pe_op op_mulS (pv 8) (pe_op op_add (pe_op op_add (pe_op op_mulS (pv 10) (pv 10)) (pe_op op_mulS pe_int (pv 10))) pe_int)) pe_int) pe_int) pe_int) pe_int) (fun _ _ => rfl))))) (pss_one (ps_if (PW.pt (pw_and (pt_cmpR op_eq (pe_op op_mod (pe_op op_fdiv (pv 1) pe_int) pe_int) pe_int (nomark _)) (pw_and1 (pt_cmpR op_eq (pe_op op_mod (pv 7) pe_int) pe_int (nomark _))))) (pss_cons (ps_set (i := 9) sc_l_great.nd rfl (by first | exact Or.inl rfl | exact Or.inr rfl) (pe_op op_rep (pe_lst (pa_cons (pv 5) pa_nil)) (pv 2)))
      (pss_one (ps_asg (pv 4) (pg_sub (pv 9) (pe_ix (ixL (K := K) rfl) (pe_lst (pa_cons pe_int (pa_cons (pe_op op_sub (pv 2) pe_int) pa_nil))) (pe_op op_mod (pe_op op_fdiv (pv 7) pe_int) pe_int) (fun _ _ => rfl)) set_list)))) pss_nil)))
      (pss_one (ps_expr (pe_bm PySem.F.plainAttrs_list PySem.F.slot_list_append PySem.F.type_list_append mt_append (pv 6) (pa_cons (pv 9) pa_nil))))))))
      (pss_one (ps_ret (pv 6))))))))), ?_⟩
    refine ⟨_, rfl, a, xs, 12, rfl, hs, by decide, by decide, fun n n0 n1 => ?_⟩
    obtain ⟨ww, hww⟩ : ∃ ww, ww = 12 + n % 13 := ⟨_, rfl⟩
    obtain ⟨hh, hhh⟩ : ∃ hh, hh = 12 + n / 13 % 13 := ⟨_, rfl⟩
    obtain ⟨hu, hhu⟩ : ∃ hu, hu = n / 507 % 16 := ⟨_, rfl⟩
    obtain ⟨ot, hot⟩ : ∃ ot, ot = (hu + 1 + n / 8112 % 15) % 16 := ⟨_, rfl⟩
    have u0 : 0 ≤ hu ∧ hu ≤ 15 := by rw [hhu]; exact mod16 _
    have o0 : 0 ≤ ot ∧ ot ≤ 15 := by rw [hot]; exact mod16 _
    dsimp only [gName]
    refine go_seq (s_par (v := .int ww) (w := .int hh) ?_ ?_ ?_)
    · rw [hww]
      exact vl_add val_c (vl_mod (val_var rfl) val_c (by decide))
    · rw [hhh]
      exact vl_add val_c (vl_mod (vl_div (val_var rfl) val_c ⟨by decide, by decide⟩) val_c (by decide))
    dsimp only
    refine go_seq (s_set (v := .int hu) ?_ ?_)
    · rw [hhu]
      exact vl_mod (vl_div (val_var rfl) val_c ⟨by decide, by decide⟩) val_c (by decide)
    dsimp only
    refine go_seq (s_set (v := .int ot) ?_ ?_)
    · rw [hot]
      exact vl_mod (vl_add (vl_add (val_var rfl) val_c) (vl_mod (vl_div (val_var rfl) val_c ⟨by decide, by decide⟩) val_c (by decide))) val_c (by decide)
    refine ⟨by show 0 ≤ sizeLine; decide, fun l hl => ?_⟩
    have z3 := Same.new (o := .lst []) hl
    have w1 : 12 ≤ ww ∧ ww ≤ 24 := by omega
    have h1 : 12 ≤ hh ∧ hh ≤ 24 := by omega
    have D0 : Drawn (upd H l (.lst [])) l ww.toNat 0 := ⟨[], [], upd_same, .nil, rfl, fun r hr => nomatch hr⟩
    refine ⟨_, rfl, _, rfl, by omega, by omega, ?_⟩
    refine for_range (fun i σ' H' => ∃ v7 v8 v9 v10, σ' = [some (.ref a), some (.int n), some (.int ww), some (.int hh), some (.int hu), some (.int ot), some (.ref l), v7, v8, v9, v10] ∧ Same H H' ∧ Drawn H' l ww.toNat i)
      ⟨none, none, none, none, rfl, z3, D0⟩ ?_ ?_
    · rintro i σ' H' hi ⟨v7, v8, v9, v10, rfl, e, Dr⟩
      rw [Int.zero_add]
      have hi24 : i < 24 := by omega
      refine ⟨_, rfl, _, rfl, _, _, rfl, rfl, (by decide : (0 : Int) < 8), _, _, rfl, rfl, a, xs, _, rfl, hs.xt (Same.xt e), by omega, by omega, fun n2 n3 n4 => ?_⟩
      refine ⟨_, rfl, _, _, rfl, rfl, mul_l (by decide), _, rfl, _, _, rfl, rfl, mul_r (by omega), _, _, rfl, rfl, ?_⟩
      refine ⟨_, rfl, by show 1 ≤ sizeLine; decide, fun t1 ht1 => ?_⟩
      have e1 := Same.mut (o := .lst [.int hu]) e (Same.free e ht1)
      have Dr1 := Dr.same (Same.new (o := .lst [.int hu]) ht1)
      refine ⟨_, rfl, t1, ww, [.int hu], rfl, rfl, upd_same, by omega, by omega, ?_, fun r1 hr1 => ?_⟩
      · show 1 * ww.toNat ≤ sizeLine
        unfold sizeLine
        omega
      rw [flat_rep, ← map_rep]
      have e2 := Same.mut (o := .lst ((List.replicate ww.toNat hu).map V.int)) e1 (Same.free e1 hr1)
      have Dr2 := Dr1.same (Same.new (o := .lst ((List.replicate ww.toNat hu).map V.int)) hr1)
      have n1 : r1 ≠ l := fun z => by
        obtain ⟨ys, hy, _⟩ := Dr1.o
        rw [z, hy] at hr1
        cases hr1
      have R1 : RowOk (upd (upd H' t1 (.lst [.int hu])) r1 (.lst ((List.replicate ww.toNat hu).map V.int))) r1 ww.toNat := ⟨_, upd_same, List.length_replicate, fun c hc => by rw [(List.mem_replicate.mp hc).2]; exact u0⟩
      revert R1 Dr2 e2
      generalize upd (upd H' t1 (.lst [.int hu])) r1 (.lst ((List.replicate ww.toNat hu).map V.int)) = H2
      intro e2 Dr2 R1
      dsimp only
      refine go_seq ?_
      refine s_ifJ2 (fun σ' H' => ∃ r v10, σ' = [some (.ref a), some (.int n), some (.int ww), some (.int hh), some (.int hu), some (.int ot), some (.ref l), some (.int (i : Nat)), some (.int (n2 + 611 * (i : Int) * (i : Int))), some (.ref r), v10] ∧ Same H H' ∧ Drawn H' l ww.toNat i ∧ r ≠ l ∧ RowOk H' r ww.toNat)
        (an_eqI (vl_mod (vl_div (val_var rfl) val_c ⟨by decide, by decide⟩) val_c (by decide)) val_c) (fun k => ?_) (fun k => ?_) ?_
      · refine ⟨_, rfl, _, rfl, by omega, by omega, fun Dl hD => ?_⟩
        have nD : Dl ≠ l := fun z => by
          obtain ⟨ys, hy, _⟩ := Dr2.o
          rw [z, hy] at hD
          cases hD
        refine lc_it walk_range (fun j H4 => Same H2 H4 ∧ ∃ ds : List Int, ds.length = j ∧ (∀ c ∈ ds, (0 : Int) ≤ c ∧ c ≤ 15) ∧ H4 Dl = some (.lst (ds.map V.int))) ⟨Same.new hD, [], rfl, fun c hc => (nomatch hc), upd_same⟩ (fun _ _ _ _ => trivial) ?_ ?_
        · rintro j x H4 H5 hj ⟨e4, ds, hds, hc, hd⟩ ⟨rfl, rfl⟩
          rw [zero_fn j]
          refine ⟨rfl, tyes_go ?_⟩
          refine ⟨_, rfl, _, rfl, by show 2 ≤ sizeLine; decide, fun t ht => ?_⟩
          have hd2 : upd H5 t (.lst [.int hu, .int ot]) Dl = some (.lst (ds.map V.int)) := (Same.new ht) _ _ hd
          obtain ⟨mv, hmv, emv⟩ := at_ints (ns := [hu, ot]) (i := (n2 + 611 * (i : Int) * (i : Int)) * ((j : Int) * (j : Int) + 3 * (j : Int) + 7) % 1000003 / 11 % 4 / 3) (by omega) (by show _ < (2 : Int); omega)
          have mb : 0 ≤ mv ∧ mv ≤ 15 := by
            simp only [List.mem_cons, List.not_mem_nil, or_false] at hmv
            rcases hmv with rfl | rfl
            · exact u0
            · exact o0
          refine ⟨_, rfl, _, rfl, _, rfl, _, _, rfl, rfl, mul_r (by omega), _, rfl, _, _, rfl, rfl, mul_l (by decide), _, _, rfl, rfl, _, _, rfl, rfl, _, _, rfl, rfl, sq_ok (by omega), _, _, rfl, rfl, (by decide : (0 : Int) < 1000003), _, _, rfl, rfl, ⟨by decide, by decide⟩, _, _, rfl, rfl, (by decide : (0 : Int) < 4), _, _, rfl, rfl, ⟨by decide, by decide⟩, t, _, _, _, rfl, rfl, SqL.of upd_same, emv, ds.map V.int, hd2, ?_, Same.mut (Same.mut e4 (Same.free e4 ht)) hD, ds ++ [mv], ?_, ?_, ?_⟩
          · rw [List.length_map, hds]
            exact small1000 (by omega)
          · rw [List.length_append, hds]
            rfl
          · intro c hcm
            rcases List.mem_append.mp hcm with hcm | hcm
            · exact hc c hcm
            · rw [List.mem_singleton] at hcm
              subst hcm
              exact mb
          · rw [upd_same, List.map_append]
            rfl
        · rintro H4 ⟨e4, ds, hds, hc, hd⟩
          exact k _ _ ⟨Dl, _, rfl, fun b o h => e4 _ _ (e2 _ _ h), Dr2.same e4, nD, ds, hd, hds, hc⟩
      · refine s_if (an_and (an_eqI (vl_mod (vl_div (val_var rfl) val_c ⟨by decide, by decide⟩) val_c (by decide)) val_c) fun _ => an_eqI (vl_mod (val_var rfl) val_c (by decide)) val_c) (fun hb => ?_) (fun hb => ?_)
        · refine ⟨_, rfl, by show 1 ≤ sizeLine; decide, fun t1 ht1 => ?_⟩
          have e3 := Same.mut (o := .lst [.int ot]) e2 (Same.free e2 ht1)
          have Dr3 := Dr2.same (Same.new (o := .lst [.int ot]) ht1)
          refine ⟨_, rfl, t1, ww, [.int ot], rfl, rfl, upd_same, by omega, by omega, ?_, fun r2 hr2 => ?_⟩
          · show 1 * ww.toNat ≤ sizeLine
            unfold sizeLine
            omega
          rw [flat_rep, ← map_rep]
          have e4 := Same.mut (o := .lst ((List.replicate ww.toNat ot).map V.int)) e3 (Same.free e3 hr2)
          have s4 := Same.new (o := .lst ((List.replicate ww.toNat ot).map V.int)) hr2
          have n2 : r2 ≠ l := fun z => by
            obtain ⟨ys, hy, _⟩ := Dr3.o
            rw [z, hy] at hr2
            cases hr2
          have hr3 : upd (upd H2 t1 (.lst [.int ot])) r2 (.lst ((List.replicate ww.toNat ot).map V.int)) r2 = some (.lst ((List.replicate ww.toNat ot).map V.int)) := upd_same
          have f2 : H r2 = none := Same.free e3 hr2
          revert e4 s4 hr3
          generalize upd (upd H2 t1 (.lst [.int ot])) r2 (.lst ((List.replicate ww.toNat ot).map V.int)) = H4
          intro e4 s4 hr3
          refine ⟨_, rfl, _, rfl, _, rfl, _, _, rfl, rfl, by show 2 ≤ sizeLine; decide, fun t ht => ?_⟩
          have e5 := Same.mut (o := .lst [.int 0, .int (ww - 1)]) e4 (Same.free e4 ht)
          have s5 := Same.mut (o := .lst [.int 0, .int (ww - 1)]) s4 (Same.free s4 ht)
          have hr5 : upd H4 t (.lst [.int 0, .int (ww - 1)]) r2 = some (.lst ((List.replicate ww.toNat ot).map V.int)) := (Same.new ht) _ _ hr3
          obtain ⟨mv, hmv, emv⟩ := at_ints (ns := [0, ww - 1]) (i := (i : Int) / 2 % 2) (by omega) (by show _ < (2 : Int); omega)
          have mb : 0 ≤ mv ∧ mv < ww := by
            simp only [List.mem_cons, List.not_mem_nil, or_false] at hmv
            omega
          have em : mv = (mv.toNat : Int) := (Int.toNat_of_nonneg mb.1).symm
          refine ⟨_, rfl, _, _, rfl, rfl, ⟨by decide, by decide⟩, _, _, rfl, rfl, (by decide : (0 : Int) < 2), t, _, _, _, rfl, rfl, SqL.of upd_same, emv, r2, _, mv, mv.toNat, rfl, rfl, hr5, ?_, ?_⟩
          · rw [em, Int.toNat_natCast]
            refine ixN_of ?_
            rw [List.length_map, List.length_replicate]
            omega
          · have es : ((List.replicate ww.toNat ot).map V.int).set mv.toNat (.int hu) = ((List.replicate ww.toNat ot).set mv.toNat hu).map V.int := by rw [List.map_set]
            rw [es]
            refine k _ _ ⟨r2, _, rfl, Same.mut e5 f2, Dr3.same (Same.mut s5 hr2), n2, _, upd_same, by rw [List.length_set, List.length_replicate], fun c hc => ?_⟩
            rcases List.mem_or_eq_of_mem_set hc with hc | rfl
            · rw [(List.mem_replicate.mp hc).2]
              exact o0
            · exact u0
        · exact k _ _ ⟨r1, v10, rfl, e2, Dr2, n1, R1⟩
      · rintro σ3 H3 ⟨r, v10, rfl, e3, Dr3, nr, row, hr3, hrl, hrc⟩
        obtain ⟨ys, hy, hyl⟩ := Dr3.o
        refine ⟨_, rfl, .inl ⟨rfl, _, SqL.of hy⟩, _, rfl, l, ys, _, rfl, rfl, hy, ?_, ?_⟩
        · rw [hyl]
          exact small1000 (by omega)
        · exact ⟨_, _, _, _, rfl, Same.mut e3 hl, Dr3.put hy hr3 nr hrl hrc⟩
    · rintro σ' H' ⟨v7, v8, v9, v10, rfl, e, Dr⟩
      obtain ⟨rs, p, A1, g⟩ := Dr.pic (by omega) (by omega) (by omega) (by omega)
      exact ⟨_, rfl, k H' l rs p e A1 g⟩
end
end Cf

set_option Elab.async false
set_option linter.all false
set_option maxRecDepth 100000
set_option maxHeartbeats 8000000
namespace Cf
open PySem PySem.Spec PyProof.Rows L2
/-! ### the law's word for an error -/
/-- what the written part says of the class at D -/
structure ExD (K : PySem.W.Frag) (D CP CO C1 C2 C3 C4 C5 : Addr) (bp bo : Bool) : Prop where
  e : ExcC K D
  v : PySem.W.kitOne K (.ref D) (.type "ValueError") = some true
  p : PySem.W.kitOne K (.ref D) (.ref CP) = some bp
  o : PySem.W.kitOne K (.ref D) (.ref CO) = some bo
  c1 : PySem.W.kitOne K (.ref D) (.ref C1) = some false
  c2 : PySem.W.kitOne K (.ref D) (.ref C2) = some false
  c3 : PySem.W.kitOne K (.ref D) (.ref C3) = some false
  c4 : PySem.W.kitOne K (.ref D) (.ref C4) = some false
  c5 : PySem.W.kitOne K (.ref D) (.ref C5) = some false
structure Tv (mg : Str → Option Value) (CP CO C1 C2 C3 C4 C5 : Addr) : Prop where
  vBadPicture : ∃ u, mg "BadPicture" = some u ∧ RelV (.ref CP) u
  vOutOfPlace : ∃ u, mg "OutOfPlace" = some u ∧ RelV (.ref CO) u
  vBadCell : ∃ u, mg "BadCell" = some u ∧ RelV (.ref C1) u
  vBadSize : ∃ u, mg "BadSize" = some u ∧ RelV (.ref C2) u
  vBadMask : ∃ u, mg "BadMask" = some u ∧ RelV (.ref C3) u
  vBadEdge : ∃ u, mg "BadEdge" = some u ∧ RelV (.ref C4) u
  vBadRule : ∃ u, mg "BadRule" = some u ∧ RelV (.ref C5) u
def wordOf (bp : Bool) : Str := if bp then "value picture" else "value place"
/-- isinstance(e, c), e the error that is pinned at p -/
theorem isiY {X : Cx} {K : PySem.W.Frag} {p : Addr × Obj} {D : Addr} (hk : X.K = K) (C : ExcC K D) (hp : p ∈ X.pn) (hz : Zc (.ref D) none p.2) (hf : ∃ vs, p.2.data = .fields vs) : CallR X (.builtin "isinstance") (rIsE K D p.1) := by
  subst hk
  rintro pins s σ H xs us Q I (_ | ⟨rx, _ | ⟨rt, _ | _⟩⟩) ⟨c, cv, b, e0, hcv, e, q⟩
  · cases e0
  · cases e0
  · obtain ⟨rfl, e1⟩ := List.cons.inj e0
    obtain ⟨rfl, _⟩ := List.cons.inj e1
    cases rx
    obtain rfl := hcv _ rt
    obtain ⟨vs, hv⟩ := hf
    have J : PySem.W.InstAt s.heap p.1 p.2 D none := ⟨(I.pin p (List.mem_append_left _ hp)).1, hz.1, by unfold PySem.W.notCls; rw [hv] <;> rfl, by rw [hz.2]; trivial⟩
    exact PySem.W.kia_one (PySem.W.handS_kitx_exc C.hg C.hk C.hs C.hd C.ha C.hn C.ht C.hm) I.kIn J e (fun z => nomatch z) fun tk => ⟨.bl b, H, I.kept (t' := tk) fun _ _ z => z, rfl, q⟩
  · cases e0
def rInt1 : List V → Hp → VK → Prop := fun xs H Q => (∃ i, xs = [.int i] ∧ Q (.int i) H) ∨ ∃ k, xs = [.bl k] ∧ Q (.int (if k then 1 else 0)) H
def rAddS : R2 := fun x y H Q => ∃ i j, x = .str i ∧ y = .str j ∧ i.length + j.length ≤ sizeLine ∧ Q (.str (i ++ j)) H
theorem vl_word {K : PySem.W.Frag} {D a : Addr} {σ : L2.St} {H : Hp} {z : Str} {cv : V} {u : Value} {b : Bool} (h0 : σ[0]? = some (some (.ref a))) (hc : ∀ x, RelV cv x → x = u) (hk : PySem.W.kitOne K (.ref D) u = some b) (hz : z.length ≤ 1000) :
    Val (tOp rStrRep (tC (.str z)) (tCB rInt1 (tCons (tCB (rIsE K D a) (tCons (tVar 0) (tCons (tC cv) tNil))) tNil))) σ H (.str (if b then z else Str.empty)) := fun Q q => by
  refine ⟨_, h0, _, _, b, rfl, hc, hk, .inr ⟨b, rfl, z, _, rfl, rfl, ?_, ?_, hz, fun v h1 h2 => ?_⟩⟩
  · cases b <;> decide
  · cases b <;> decide
  · cases b with
    | true =>
      obtain rfl := h2 rfl
      exact q
    | false =>
      obtain rfl := h1 rfl
      exact q
theorem vl_addS {σ : L2.St} {H : Hp} {ta tb : TE} {x y : Str} (ha : Val ta σ H (.str x)) (hb : Val tb σ H (.str y)) (h : x.length + y.length ≤ sizeLine) : Val (tOp rAddS ta tb) σ H (.str (x ++ y)) := fun Q q => ha _ (hb _ ⟨x, y, rfl, rfl, h, q⟩)
section
variable {P : Program} {w : World} {K : PySem.W.Frag} {mg : Str → Option Value} {base : Heap} {CP CO CF S a0 a1 a2 a3 c Pt C1 C2 C3 C4 C5 D : Addr} {bp : Bool}
theorem body_class (T : Tx K mg CP CO CF S a0 a1 a2 a3) (V7 : Tv mg CP CO C1 C2 C3 C4 C5) (Ex : ExD K D CP CO C1 C2 C3 C4 C5 bp (!bp)) {f : Addr} {cdv : Value} {A : Around} {outer : List Env} {s : Shared} {H : Hp} {E : XK} {p : Addr × Obj} (hz : Zc (.ref D) none p.2) (hf : ∃ vs, p.2.data = .fields vs) {k : Nat}
    (hr : L2H.RoomH k A) {Q : VK} (q : Q (.str (wordOf bp)) H) :
    ∃ t, PSs (L2H.cxH CX0 P w K mg base N_l_class "_law_class" (defScope s_l_class) f cdv A outer s H E p) (defBody s_l_class) t ∧ t { nx := fun _ H' => Q .non H', rt := Q } (L2.start N_l_class [.ref p.1]) H := by
  refine ⟨_, (pss_cons (ps_set (i := 1) sc_l_class.nd rfl (by first | exact Or.inl rfl | exact Or.inr rfl) (pe_op op_strRep pe_str (pe_callTy call_int1 (by rfl) T.int (by decide +kernel) (pa_cons (pe_callB (isiY (K := K) (p := p) rfl Ex.e List.mem_cons_self hz hf) (by rfl) T.isinstance (by decide +kernel) (pa_cons (pv 0) (pa_cons (pe_bltn (v := .ty "ValueError") (by rfl) T.ValueError (by decide +kernel) rfl) pa_nil))) pa_nil))))
      (pss_cons (ps_set (i := 1) sc_l_class.nd rfl (by first | exact Or.inl rfl | exact Or.inr rfl) (pe_op op_add_str (pe_op op_add_str (pv 1) (pe_op op_strRep pe_str (pe_callTy call_int1 (by rfl) T.int (by decide +kernel) (pa_cons (pe_callB (isiY (K := K) (p := p) rfl Ex.e List.mem_cons_self hz hf) (by rfl) T.isinstance (by decide +kernel) (pa_cons (pv 0) (pa_cons (C8.pe_gc rfl V7.vBadPicture) pa_nil))) pa_nil)))) (pe_op op_strRep pe_str (pe_callTy call_int1 (by rfl) T.int (by decide +kernel) (pa_cons (pe_callB (isiY (K := K) (p := p) rfl Ex.e List.mem_cons_self hz hf) (by rfl) T.isinstance (by decide +kernel) (pa_cons (pv 0) (pa_cons (C8.pe_gc rfl V7.vBadCell) pa_nil))) pa_nil)))))
      (pss_cons (ps_set (i := 1) sc_l_class.nd rfl (by first | exact Or.inl rfl | exact Or.inr rfl) (pe_op op_add_str (pe_op op_add_str (pv 1) (pe_op op_strRep pe_str (pe_callTy call_int1 (by rfl) T.int (by decide +kernel) (pa_cons (pe_callB (isiY (K := K) (p := p) rfl Ex.e List.mem_cons_self hz hf) (by rfl) T.isinstance (by decide +kernel) (pa_cons (pv 0) (pa_cons (C8.pe_gc rfl V7.vBadSize) pa_nil))) pa_nil)))) (pe_op op_strRep pe_str (pe_callTy call_int1 (by rfl) T.int (by decide +kernel) (pa_cons (pe_callB (isiY (K := K) (p := p) rfl Ex.e List.mem_cons_self hz hf) (by rfl) T.isinstance (by decide +kernel) (pa_cons (pv 0) (pa_cons (C8.pe_gc rfl V7.vBadMask) pa_nil))) pa_nil)))))
      (pss_cons (ps_set (i := 1) sc_l_class.nd rfl (by first | exact Or.inl rfl | exact Or.inr rfl) (pe_op op_add_str (pe_op op_add_str (pv 1) (pe_op op_strRep pe_str (pe_callTy call_int1 (by rfl) T.int (by decide +kernel) (pa_cons (pe_callB (isiY (K := K) (p := p) rfl Ex.e List.mem_cons_self hz hf) (by rfl) T.isinstance (by decide +kernel) (pa_cons (pv 0) (pa_cons (C8.pe_gc rfl V7.vOutOfPlace) pa_nil))) pa_nil)))) (pe_op op_strRep pe_str (pe_callTy call_int1 (by rfl) T.int (by decide +kernel) (pa_cons (pe_callB (isiY (K := K) (p := p) rfl Ex.e List.mem_cons_self hz hf) (by rfl) T.isinstance (by decide +kernel) (pa_cons (pv 0) (pa_cons (C8.pe_gc rfl V7.vBadEdge) pa_nil))) pa_nil)))))
      (pss_one (ps_ret (pe_op op_add_str (pv 1) (pe_op op_strRep pe_str (pe_callTy call_int1 (by rfl) T.int (by decide +kernel) (pa_cons (pe_callB (isiY (K := K) (p := p) rfl Ex.e List.mem_cons_self hz hf) (by rfl) T.isinstance (by decide +kernel) (pa_cons (pv 0) (pa_cons (C8.pe_gc rfl V7.vBadRule) pa_nil))) pa_nil)))))))))), ?_⟩
  have W := fun (z : Str) (cv : V) (u : Value) (b : Bool) (h1 : ∀ x, RelV cv x → x = u) (h2 : PySem.W.kitOne K (.ref D) u = some b) (h3 : z.length ≤ 1000) (v1 : Option V) => vl_word (K := K) (D := D) (a := p.1) (σ := [some (.ref p.1), v1]) (H := H) (z := z) rfl h1 h2 h3
  refine go_seq (s_set (W "value " (.ty "ValueError") (.type "ValueError") true (fun _ h => h) Ex.v (by decide) none) ?_)
  dsimp only
  refine go_seq (s_set (v := .str (("value " : Str) ++ (if bp then ("picture" : Str) else Str.empty) ++ Str.empty)) ?_ ?_)
  · refine vl_addS (vl_addS (val_var rfl) (W "picture" (.ref CP) (.ref CP) bp (fun _ h => h) Ex.p (by decide) _) ?_) (W "cell" (.ref C1) (.ref C1) false (fun _ h => h) Ex.c1 (by decide) _) ?_
    · cases bp <;> decide
    · cases bp <;> decide
  dsimp only
  refine go_seq (s_set (v := .str (("value " : Str) ++ (if bp then ("picture" : Str) else Str.empty) ++ Str.empty ++ Str.empty ++ Str.empty)) ?_ ?_)
  · refine vl_addS (vl_addS (val_var rfl) (W "size" (.ref C2) (.ref C2) false (fun _ h => h) Ex.c2 (by decide) _) ?_) (W "mask" (.ref C3) (.ref C3) false (fun _ h => h) Ex.c3 (by decide) _) ?_
    · cases bp <;> decide
    · cases bp <;> decide
  dsimp only
  refine go_seq (s_set (v := .str (("value " : Str) ++ (if bp then ("picture" : Str) else Str.empty) ++ Str.empty ++ Str.empty ++ Str.empty ++ (if !bp then ("place" : Str) else Str.empty) ++ Str.empty)) ?_ ?_)
  · refine vl_addS (vl_addS (val_var rfl) (W "place" (.ref CO) (.ref CO) (!bp) (fun _ h => h) Ex.o (by decide) _) ?_) (W "edge" (.ref C4) (.ref C4) false (fun _ h => h) Ex.c4 (by decide) _) ?_
    · cases bp <;> decide
    · cases bp <;> decide
  dsimp only
  refine s_ret (v := .str (wordOf bp)) ?_ q
  have e : wordOf bp = ("value " : Str) ++ (if bp then ("picture" : Str) else Str.empty) ++ Str.empty ++ Str.empty ++ Str.empty ++ (if !bp then ("place" : Str) else Str.empty) ++ Str.empty ++ Str.empty := by cases bp <;> decide +kernel
  rw [e]
  refine vl_addS (val_var rfl) (W "rule" (.ref C5) (.ref C5) false (fun _ h => h) Ex.c5 (by decide) _) ?_
  cases bp <;> decide
end
end Cf

set_option Elab.async false
set_option linter.all false
set_option maxRecDepth 100000
set_option maxHeartbeats 8000000
namespace Cf
open PySem PySem.Spec PyProof.Rows L2
/-! ### the law's word -/
theorem pe_calS {X : Cx} {CX : CXT} {k j : Nat} {x : Str} {ps : List Str} {sp : Sp} {e : Expr} {es : List Expr} {t : TA} {p pos : Pos} {E : L2.St → XK} (c : Cal X.prog X.w X.K X.mg X.base CX k x ps sp) (hr : Room j X.A) (hk : k ≤ j) (hg : Gl X x) (hx : ∀ σ, PassesAt CX X σ (E σ)) (ha : PA X (e :: es) t) (hdb : (x == ("__debug__" : Str)) = false := by decide)
    (he : starEach (e :: es) X.env = (false, eval e X.env) :: starEach es X.env := by rfl) (hpl : (backTo pos (starEach es X.env)).any (·.1) = false := by rfl) :
    PE X (.Call (.Name x p) (e :: es) [] pos) (tCallS sp E t) := by
  obtain ⟨f, fd, F, hm, kp, b⟩ := c
  exact pe_callS F (hr.mono hk) hg hm kp b hx ha hdb he hpl
/-- _law_class(_law_error), the error in slot i -/
def tCl (K : PySem.W.Frag) (CP CO C1 C2 C3 C4 C5 : Addr) (i : Nat) (a : Addr) (cls : Value) (d : Option Addr) : TE := fun σ H Q => ∃ D bp, cls = .ref D ∧ d = none ∧ ExD K D CP CO C1 C2 C3 C4 C5 bp (!bp) ∧ σ[i]? = some (some (.ref a)) ∧ Q (.str (wordOf bp)) H
theorem pe_class {Y : Cx} {CP CO CF S a0 a1 a2 a3 C1 C2 C3 C4 C5 a : Addr} {oe : Obj} {cls : Value} {d : Option Addr} {i k : Nat} {e : Expr} {q pos : Pos} (Df0 : Df Y.K Y.mg "_law_class" s_l_class) (T : Tx Y.K Y.mg CP CO CF S a0 a1 a2 a3) (V7 : Tv Y.mg CP CO C1 C2 C3 C4 C5)
    (hp : (a, oe) ∈ Y.pn) (hz : Zc cls d oe) (hf : ∃ vs, oe.data = .fields vs) (hr : L2H.RoomH (k + 1) Y.A) (hg : Gl Y "_law_class") (ha : PA Y [e] (tCons (tVar i) tNil))
    (he : starEach [e] Y.env = (false, eval e Y.env) :: starEach [] Y.env := by rfl) (hpl : (backTo pos (starEach [] Y.env)).any (·.1) = false := by rfl) :
    PE Y (.Call (.Name "_law_class" q) [e] [] pos) (tCl Y.K CP CO C1 C2 C3 C4 C5 i a cls d) := by
  refine ⟨fun pins s σ H Q I h => ?_⟩
  obtain ⟨D, bp, rfl, rfl, Ex, hσ, hq⟩ := h
  obtain ⟨f, fd, F, hm⟩ := Df0
  have hb := F.bindsN (ps := ["_law_error"]) (fun _ _ _ _ _ _ us hl => match us, hl with | [_], _ => rfl)
  obtain ⟨oc, od, dV, kV, doc, pm, an, cdv, ct, osl, rfl, lk, hcd, _, _⟩ := F.ex
  refine wpAny_Call_Name_kw (ld_glob I hg hm ?_ (by decide))
  refine PySem.W.callWith_K (h₀ := Y.base) I.ok.mod.kin F.kp (thn (ha.run pos pins s σ H (fun vs H1 => vs = [V.ref a] ∧ H1 = H) I ⟨_, hσ, rfl, rfl⟩) fun us s1 ⟨vs, H1, I1, r, ev, eH⟩ => ⟨I1.kIn, ?_⟩) he hpl
  subst ev eH
  have hl : us.length = 1 := by rw [← r.length]; rfl
  have b := hb s1 us I1.kIn (by rw [List.append_nil]; exact hl)
  rw [List.append_nil] at b
  have P1 := I1.pin (a, oe) (List.mem_append_left _ hp)
  have hpin : L2H.PinOk Y.stack H1 s1 (a, oe) := ⟨P1.1, P1.2.1, fun hm => (List.mem_cons.mp (I1.stkSub a hm)).elim P1.2.2.1 P1.2.2.2.1, P1.2.2.2.2⟩
  have e0 := I1.env0
  have KX : Y.K.In s1.heap := I1.kIn
  have hkind : ∀ y ∈ (["_law_error"] : List Str).zip us, (defScope s_l_class).names.lookup y.1 = some .local ∨ ((defScope s_l_class).names.lookup y.1 = some .cell ∧ ((cellsFrom (s1.heap.objs.size + 1) (defScope s_l_class).names []).lookup y.1).isSome = true) := fun ⟨n, v⟩ hy => by
    rcases sc_l_class.par n (List.of_mem_zip hy).1 with z | z
    · exact .inl z
    · exact .inr ⟨z, PySem.W.cellsFrom_some _ _ _ (.inl z)⟩
  have run : codeAny (model Y.prog Y.w) Y.A (.call (.ref f) ⟨us, []⟩) (CR CX0 Y.stack Y.prog Y.w H1 s1 Q E0) s1 := by
    refine codeAny_call_function hr.depth (KX _ _ lk) rfl sc_l_class.co sc_l_class.gen rfl (PySem.W.codeRec_of KX hcd) (b _ _ _ _ ?_)
    refine wpAny_newFunctionEnv_cells sc_l_class.kind hkind fun env he s2 x => ?_
    subst he
    refine ⟨I1.nolimit.keeps x.toInCall.keep, codeAny_func ?_⟩
    obtain ⟨t, ht, tq⟩ := body_class (P := Y.prog) (w := Y.w) (base := Y.base) T V7 Ex (f := f) (cdv := cdv) (A := Y.A) (outer := Y.stack) (s := s1) (H := H1) (E := E0) (p := (a, oe)) hz hf (hr.mono (Nat.le_succ _)) hq
    have I2 := L2H.inv_startH (CX := CX0) (E := E0) (f := f) (cd := cdv) (qual := "_law_class") sc_l_class hpin e0 rfl r x
    refine wpAny_mono (ht.run [] s2 _ H1 _ I2 tq) (fun fl s' hs => ?_) fun e s' hs => hs
    cases fl with
    | ret u =>
      obtain ⟨v, σ', H', J, rv, q'⟩ := hs
      exact ⟨v, H', J.os, J.bare, J.base, J.hok, rv, q'⟩
    | next =>
      obtain ⟨σ', H', J, q'⟩ := hs
      exact ⟨.non, H', J.os, J.bare, J.base, J.hok, rfl, q'⟩
    | brk =>
      obtain ⟨_, _, _, q'⟩ := hs
      exact False.elim q'
    | cont =>
      obtain ⟨_, _, _, q'⟩ := hs
      exact False.elim q'
  refine wpAny_call (codeAny_mono run fun rr s' hs => ?_)
  cases rr with
  | error e => exact pass0 pins σ H1 s1 e s' I1 hs
  | ok fl =>
    cases fl with
    | ret u => exact I1.after hs
    | next => exact False.elim hs
    | brk => exact False.elim hs
    | cont => exact False.elim hs
theorem roomY {k j : Nat} {A : Around} {v : Option Value} (hr : Room k A) (h : j ≤ k) : L2H.RoomH j (A.mark v) := ⟨by have := hr.dp; show A.depth + 3 * j + 5 < _; omega, by have := hr.un; show A.units + 16 * j + 200 < _; omega⟩
/-- the law's word for a call that is refused -/
def spWord (K : PySem.W.Frag) : Sp := fun vs H Q _ => ∃ (wh : Int) (v x y : V) (bp : Bool), vs = [.int wh, v, x, y] ∧ (∀ H', Same H H' → Q (.str (wordOf bp)) H') ∧
  ((bp = true ∧ (wh = 0 ∨ wh = 1) ∧ PicB K H v false) ∨ (bp = false ∧ wh = 1 ∧ ∃ a rs p b c, v = .ref a ∧ PicAt H a rs p ∧ Good p ∧ CellB K H 0 ((wd p : Int) - 1) x b ∧ CellB K H 0 ((hg p : Int) - 1) y c ∧ (b && c) = false))
section
variable {P : Program} {w : World} {K : PySem.W.Frag} {mg : Str → Option Value} {base : Heap} {CP CO CF S a0 a1 a2 a3 c Pt C1 C2 C3 C4 C5 : Addr}
theorem ok_l_word (D : Df K mg "_law_word" s_l_word) (T : Tx K mg CP CO CF S a0 a1 a2 a3) (V7 : Tv mg CP CO C1 C2 C3 C4 C5) (Dc : Df K mg "_law_class" s_l_class) (E1 : ExD K CP CP CO C1 C2 C3 C4 C5 true false) (E2 : ExD K CO CP CO C1 C2 C3 C4 C5 false true)
    (m1 : PySem.W.exmOne K (.ref CP) (.ref CF) = some true) (m2 : PySem.W.exmOne K (.ref CO) (.ref CF) = some true)
    (c_regions_of : Cal P w K mg base (L2.CX P w) 6 "regions_of" ["picture"] (spRegs K CP Pt)) (c_region_at : Cal P w K mg base (L2.CX P w) 6 "region_at" ["picture", "x", "y"] (spRegAt K CP CO Pt)) : Cal P w K mg base CX0 7 "_law_word" ["_law_which", "_law_picture_here", "_law_x", "_law_y"] (spWord K) := by
  refine cal_of D sc_l_word (fun _ _ _ _ _ _ us hl => match us, hl with | [_, _, _, _], _ => rfl) (fun vs H Q E h => ?_) (fun f cdv A outer s H vs Q E hr h => ?_)
  · obtain ⟨wh, v, x, y, bp, rfl, _⟩ := h
    rfl
  · obtain ⟨wh, v, x, y, bp, rfl, k, h⟩ := h
    refine ⟨_, (pss_cons (ps_try_as (i := 4) (tb := fun W => tIfS (tTest (tOp rEq (tVar 0) (tC (.int 0)))) (tDrop (tCallS (spRegs K CP Pt) (WE W) (tCons (tVar 1) tNil))) (tDrop (tCallS (spRegAt K CP CO Pt) (WE W) (tCons (tVar 1) (tCons (tVar 2) (tCons (tVar 3) tNil))))))
        (ts := fun a cls d => tRet (tCl K CP CO C1 C2 C3 C4 C5 4 a cls d)) (Wout := fun _ _ _ _ => False) rfl rfl sc_l_word.nd rfl rfl ⟨rfl, by decide, Or.inl T.gFolioError⟩ takes0
        (fun W pn xe tk _ => pss_one (ps_if (pt_cmpR op_eq (pv 0) pe_int (nomark _)) (pss_one (ps_expr (pe_calS c_regions_of hr (by decide) (by rfl) (fun σ => passAt tk σ) (pa_cons (pv 1) pa_nil)))) (pss_one (ps_expr (pe_calS c_region_at hr (by decide) (by rfl) (fun σ => passAt tk σ) (pa_cons (pv 1) (pa_cons (pv 2) (pa_cons (pv 3) pa_nil))))))))
        (fun a oe cls d pn hz hf => pss_one (ps_ret (pe_class (k := 0) Dc T V7 List.mem_cons_self hz hf (roomY (j := 1) hr (by decide)) (by rfl) (pa_cons (pv 4) pa_nil)))))
      (pss_one (ps_ret pe_str))), ?_⟩
    rcases h with ⟨rfl, h0, hx⟩ | ⟨rfl, rfl, a, rs, p, b, c, rfl, A1, g, hb, hc, bc⟩
    · have fin : ∀ H', Same H H' → wAs K (.ref CF) 4 (fun a cls d => tRet (tCl K CP CO C1 C2 C3 C4 C5 4 a cls d)) (fun _ _ _ _ => False) { nx := tRet (tC (.str Str.empty)) { nx := fun _ H' => Q .non H', rt := Q }, rt := Q } (.ref CP) none [some (.int wh), some v, some x, some y, none] H' := fun H' e =>
        ⟨true, m1, fun _ a ha => ⟨CP, true, rfl, rfl, E1, rfl, k H' e⟩, fun z => nomatch z⟩
      rcases h0 with rfl | rfl
      · refine ⟨_, rfl, rfl, _, rfl, ?_⟩
        rw [decide_eq_true rfl]
        exact iteT ⟨_, rfl, .inl ⟨v, rfl, hx, fun H' e => fin H' e⟩⟩
      · refine ⟨_, rfl, rfl, _, rfl, ?_⟩
        rw [decide_eq_false (by intro z; cases z)]
        exact iteF ⟨_, rfl, _, rfl, _, rfl, .inl ⟨v, x, y, rfl, hx, fun H' e => fin H' e⟩⟩
    · refine ⟨_, rfl, rfl, _, rfl, ?_⟩
      rw [decide_eq_false (by intro z; cases z)]
      exact iteF ⟨_, rfl, _, rfl, _, rfl, .inr (.inl ⟨a, rs, p, x, y, b, c, rfl, A1, g, hb, hc, bc, fun H' e => ⟨true, m2, fun _ a ha => ⟨CO, false, rfl, rfl, E2, rfl, k H' e⟩, fun z => nomatch z⟩⟩)⟩
end
end Cf

set_option Elab.async false
set_option linter.all false
set_option maxRecDepth 100000
set_option maxHeartbeats 8000000
namespace Cf
open PySem PySem.Spec PyProof.Rows L2
/-! ### refused -/
theorem at_all {xs : List V} {i : Int} (h0 : 0 ≤ i) (h1 : i < (xs.length : Int)) : ∃ v ∈ xs, atI xs i = some v := by
  have hi : i.toNat < xs.length := by omega
  have e : i = (i.toNat : Int) := (Int.toNat_of_nonneg h0).symm
  have z : atI xs (i.toNat : Int) = some xs[i.toNat] := atI_nat (List.getElem?_eq_getElem hi)
  rw [← e] at z
  exact ⟨_, List.getElem_mem hi, z⟩
section
variable {K : PySem.W.Frag} {H : Hp}
theorem not_non {T : String} (h : kitB "NoneType" T = some false) : NotTy K H T .non := ⟨_, .base .non, h⟩
theorem not_str {T : String} {x : Str} (h : kitB "str" T = some false) : NotTy K H T (.str x) := ⟨_, .base (.str x), h⟩
theorem not_lst {T : String} {t : Addr} {xs : List V} (ht : H t = some (.lst xs)) (h : kitB "list" T = some false) : NotTy K H T (.ref t) := ⟨_, .base (.lst ht), h⟩
theorem cell_bad {lo hi i : Int} (h : i < lo ∨ hi < i) : CellB K H lo hi (.int i) false := .inl ⟨i, rfl, by
  rcases h with h | h
  · rw [decide_eq_false (by omega)]
    rfl
  · rw [decide_eq_false (p := i ≤ hi) (by omega), Bool.and_false]⟩
theorem odd_cell {lo hi : Int} {v : V} {x : Str} {t : Addr} {xs : List V} (ht : H t = some (.lst xs)) (h : (∃ i, v = .int i ∧ (i < lo ∨ hi < i)) ∨ (∃ c, v = .bl c) ∨ v = .non ∨ v = .str x ∨ v = .ref t) : CellB K H lo hi v false := by
  rcases h with ⟨i, rfl, h⟩ | ⟨c, rfl⟩ | rfl | rfl | rfl
  · exact cell_bad h
  · exact .inr ⟨.inl ⟨c, rfl⟩, rfl⟩
  · exact .inr ⟨.inr (not_non (by decide +kernel)), rfl⟩
  · exact .inr ⟨.inr (not_str (by decide +kernel)), rfl⟩
  · exact .inr ⟨.inr (not_lst ht (by decide +kernel)), rfl⟩
end
def spWrong (K : PySem.W.Frag) : Sp := fun vs H Q _ => ∃ (n : Int) (a : Addr) (rs : List Addr) (p : Pic), vs = [.int n, .ref a] ∧ 0 ≤ n ∧ PicAt H a rs p ∧ Good p ∧ ∀ H' v, Same H H' → PicB K H' v false → Q v H'
def spRefused (K : PySem.W.Frag) : Sp := fun vs H Q _ => ∃ (n : Int) (a : Addr) (rs : List Addr) (p : Pic), vs = [.ref a, .int n] ∧ 0 ≤ n ∧ PicAt H a rs p ∧ Good p ∧ ∀ H', Same H H' → Q (.bl true) H'
theorem PicB.same {K : PySem.W.Frag} {H H' : Hp} {x : V} {b : Bool} (e : Same H H') (h : PicB K H x b) : PicB K H' x b := by
  rcases h with ⟨h, hb⟩ | ⟨a, xs, rfl, ha, hz, h⟩
  · exact .inl ⟨h.ext e, hb⟩
  · refine .inr ⟨a, xs, rfl, e _ _ ha, hz, ?_⟩
    rcases h with h | ⟨h1, h2, bs, h3, h4⟩
    · exact .inl h
    · refine .inr ⟨h1, h2, bs, paired_ext (fun _ _ q => q.ext e) h3, ?_⟩
      rcases h4 with h4 | ⟨h4, ns, h5, h6⟩
      · exact .inl h4
      · exact .inr ⟨h4, ns, paired_ext (fun _ _ ⟨a, ys, z1, z2, z3⟩ => ⟨a, ys, z1, e _ _ z2, z3⟩) h5, h6⟩
section
variable {P : Program} {w : World} {K : PySem.W.Frag} {mg : Str → Option Value} {base : Heap} {CP CO CF S a0 a1 a2 a3 c Pt : Addr}
theorem ok_l_refused (D : Df K mg "_law_refused" s_l_refused) (T : Tx K mg CP CO CF S a0 a1 a2 a3) (c_l_wrong_picture : Cal P w K mg base CX0 1 "_law_wrong_picture" ["_law_number", "_law_picture_here"] (spWrong K))
    (c_l_word : Cal P w K mg base CX0 7 "_law_word" ["_law_which", "_law_picture_here", "_law_x", "_law_y"] (spWord K)) : Cal P w K mg base CX0 8 "_law_refused" ["_law_picture_here", "_law_number"] (spRefused K) := by
  refine cal_of D sc_l_refused (fun _ _ _ _ _ _ us hl => match us, hl with | [_, _], _ => rfl) (fun vs H Q E h => ?_) (fun f cdv A outer s H vs Q E hr h => ?_)
  · obtain ⟨n, a, rs, p, rfl, _⟩ := h
    rfl
  · obtain ⟨n, a, rs, p, rfl, n0, A1, g, k⟩ := h
    refine ⟨_, (pss_cons (ps_set (i := 2) sc_l_refused.nd rfl (by first | exact Or.inl rfl | exact Or.inr rfl) (pe_cal c_l_wrong_picture hr (by decide) (by rfl) (pa_cons (pv 1) (pa_cons (pv 0) pa_nil))))
      (pss_cons (ps_set (i := 3) sc_l_refused.nd rfl (by first | exact Or.inl rfl | exact Or.inr rfl) (pe_callB (lenK (K := K) rfl) (by rfl) T.len PySem.boot_len (pa_cons (pe_ix (ixL (K := K) rfl) (pv 0) pe_int (fun _ _ => rfl)) pa_nil)))
      (pss_cons (ps_set (i := 4) sc_l_refused.nd rfl (by first | exact Or.inl rfl | exact Or.inr rfl) (pe_callB (lenK (K := K) rfl) (by rfl) T.len PySem.boot_len (pa_cons (pv 0) pa_nil)))
      (pss_cons (ps_set (i := 5) sc_l_refused.nd rfl (by first | exact Or.inl rfl | exact Or.inr rfl) (pe_ix (ixL (K := K) rfl) (pe_lst (pa_cons (pe_un un_neg pe_int) (pa_cons (pv 3) (pa_cons pe_bl (pa_cons pe_non (pa_cons pe_str (pa_cons (pe_lst (pa_cons pe_int pa_nil)) (pa_cons (pe_op op_pow pe_int pe_int) (pa_cons pe_bl (pa_cons (pe_op op_sub (pe_un un_neg pe_int) (pv 3)) pa_nil)))))))))) (pe_op op_mod (pe_op op_fdiv (pv 1) pe_int) pe_int) (fun _ _ => rfl)))
      (pss_cons (ps_set (i := 6) sc_l_refused.nd rfl (by first | exact Or.inl rfl | exact Or.inr rfl) (pe_ix (ixL (K := K) rfl) (pe_lst (pa_cons (pe_un un_neg pe_int) (pa_cons (pv 4) (pa_cons pe_bl (pa_cons pe_non (pa_cons pe_str (pa_cons (pe_lst (pa_cons pe_int pa_nil)) (pa_cons (pe_op op_pow pe_int pe_int) (pa_cons pe_bl (pa_cons (pe_op op_sub (pe_un un_neg pe_int) (pv 4)) pa_nil)))))))))) (pe_op op_mod (pe_op op_fdiv (pv 1) pe_int) pe_int) (fun _ _ => rfl)))
      (pss_cons (ps_if (PW.pt (pw_or (pt_cmpR op_ne (pe_cal c_l_word hr (by decide) (by rfl) (pa_cons pe_int (pa_cons (pv 2) (pa_cons pe_int (pa_cons pe_int pa_nil))))) pe_str (nomark _)) (pw_or1 (pt_cmpR op_ne (pe_cal c_l_word hr (by decide) (by rfl) (pa_cons pe_int (pa_cons (pv 2) (pa_cons (pv 5) (pa_cons (pv 6) pa_nil))))) pe_str (nomark _))))) (pss_one (ps_ret pe_bl)) pss_nil)
      (pss_one (ps_ret (pe_and (pe_cmpR op_eq (pe_cal c_l_word hr (by decide) (by rfl) (pa_cons pe_int (pa_cons (pv 0) (pa_cons (pv 5) (pa_cons pe_int pa_nil))))) pe_str (nomark _)) (pe_one (pe_cmpR op_eq (pe_cal c_l_word hr (by decide) (by rfl) (pa_cons pe_int (pa_cons (pv 0) (pa_cons (pe_op op_sub (pv 3) pe_int) (pa_cons (pv 6) pa_nil))))) pe_str (nomark _)))))))))))), ?_⟩
    have h1 := g.h1
    have w1 := g.w1
    have h2 := g.h2
    have w2 := g.w2
    refine ⟨_, rfl, _, rfl, n, a, rs, p, rfl, n0, A1, g, fun H1 bad e1 hbad => ?_⟩
    have A2 := A1.xt (Same.xt e1)
    obtain ⟨r0, row0, y1, y2, y3⟩ := A2.first g
    refine ⟨_, rfl, _, _, _, _, rfl, rfl, SqL.of A2.o, y1, _, wd p, rfl, .inl ⟨_, SqL.of y2, Int.ofNat_inj.mp y3.symm⟩, ?_⟩
    refine ⟨_, rfl, _, hg p, rfl, .inl ⟨_, SqL.of A2.o, by rw [List.length_map, A1.len]⟩, ?_⟩
    refine ⟨_, rfl, _, rfl, by show 1 ≤ sizeLine; decide, fun t1 ht1 => ?_⟩
    refine ⟨_, _, rfl, rfl, ⟨by decide, by decide, by decide⟩, _, rfl, _, rfl, _, _, rfl, rfl, by show 9 ≤ sizeLine; decide, fun l1 hl1 => ?_⟩
    have e2 := Same.mut (o := .lst [.int 0]) e1 (Same.free e1 ht1)
    have b1 : upd H1 t1 (.lst [.int 0]) t1 = some (.lst [.int 0]) := upd_same
    have wz : 1 ≤ (wd p : Int) ∧ (wd p : Int) ≤ 24 := by omega
    have hz : 1 ≤ (hg p : Int) ∧ (hg p : Int) ≤ 24 := by omega
    have hbad2 := hbad.same (Same.new (o := .lst [.int 0]) ht1)
    revert e2 b1 hl1 hbad2
    generalize upd H1 t1 (.lst [.int 0]) = H2
    intro hl1 e2 b1 hbad2
    obtain ⟨odd, ho1, ho2⟩ := at_all (xs := [.int (-1), .int (wd p : Nat), .bl true, .non, .str "0", .ref t1, .int (10 ^ (20 : Int).toNat), .bl false, .int (-1 - (wd p : Nat))]) (i := n / 9 % 9) (by omega) (by show _ < (9 : Int); omega)
    refine ⟨_, rfl, _, _, rfl, rfl, ⟨by decide, by decide⟩, _, _, rfl, rfl, (by decide : (0 : Int) < 9), l1, _, _, _, rfl, rfl, SqL.of upd_same, ho2, ?_⟩
    have e3 := Same.mut (o := .lst [.int (-1), .int (wd p : Nat), .bl true, .non, .str "0", .ref t1, .int (10 ^ (20 : Int).toNat), .bl false, .int (-1 - (wd p : Nat))]) e2 (Same.free e2 hl1)
    have hodd : CellB K H2 0 ((wd p : Int) - 1) odd false := by
      refine odd_cell (x := "0") b1 ?_
      simp only [List.mem_cons, List.not_mem_nil, or_false] at ho1
      rcases ho1 with rfl | rfl | rfl | rfl | rfl | rfl | rfl | rfl | rfl
      · exact .inl ⟨_, rfl, by omega⟩
      · exact .inl ⟨_, rfl, by omega⟩
      · exact .inr (.inl ⟨_, rfl⟩)
      · exact .inr (.inr (.inl rfl))
      · exact .inr (.inr (.inr (.inl rfl)))
      · exact .inr (.inr (.inr (.inr rfl)))
      · exact .inl ⟨_, rfl, .inr (Int.lt_of_le_of_lt (show (wd p : Int) - 1 ≤ 23 by omega) (by decide))⟩
      · exact .inr (.inl ⟨_, rfl⟩)
      · exact .inl ⟨_, rfl, by omega⟩
    have hodd2 := hodd.ext (Same.new (o := .lst [.int (-1), .int (wd p : Nat), .bl true, .non, .str "0", .ref t1, .int (10 ^ (20 : Int).toNat), .bl false, .int (-1 - (wd p : Nat))]) hl1)
    have hbad3 := hbad2.same (Same.new (o := .lst [.int (-1), .int (wd p : Nat), .bl true, .non, .str "0", .ref t1, .int (10 ^ (20 : Int).toNat), .bl false, .int (-1 - (wd p : Nat))]) hl1)
    revert e3 hodd2 hbad3
    generalize upd H2 l1 (.lst [.int (-1), .int (wd p : Nat), .bl true, .non, .str "0", .ref t1, .int (10 ^ (20 : Int).toNat), .bl false, .int (-1 - (wd p : Nat))]) = H3
    intro e3 hodd2 hbad3
    refine ⟨_, rfl, _, rfl, by show 1 ≤ sizeLine; decide, fun t2 ht2 => ?_⟩
    refine ⟨_, _, rfl, rfl, ⟨by decide, by decide, by decide⟩, _, rfl, _, rfl, _, _, rfl, rfl, by show 9 ≤ sizeLine; decide, fun l2 hl2 => ?_⟩
    have e4 := Same.mut (o := .lst [.int 0]) e3 (Same.free e3 ht2)
    have b2 : upd H3 t2 (.lst [.int 0]) t2 = some (.lst [.int 0]) := upd_same
    have s4 := Same.new (o := .lst [.int 0]) ht2
    revert e4 b2 hl2 s4
    generalize upd H3 t2 (.lst [.int 0]) = H4
    intro hl2 e4 b2 s4
    obtain ⟨dn, hd1, hd2⟩ := at_all (xs := [.int (-1), .int (hg p : Nat), .bl true, .non, .str "0", .ref t2, .int (10 ^ (20 : Int).toNat), .bl false, .int (-1 - (hg p : Nat))]) (i := n / 81 % 9) (by omega) (by show _ < (9 : Int); omega)
    refine ⟨_, rfl, _, _, rfl, rfl, ⟨by decide, by decide⟩, _, _, rfl, rfl, (by decide : (0 : Int) < 9), l2, _, _, _, rfl, rfl, SqL.of upd_same, hd2, ?_⟩
    have e5 := Same.mut (o := .lst [.int (-1), .int (hg p : Nat), .bl true, .non, .str "0", .ref t2, .int (10 ^ (20 : Int).toNat), .bl false, .int (-1 - (hg p : Nat))]) e4 (Same.free e4 hl2)
    have hdn : CellB K H4 0 ((hg p : Int) - 1) dn false := by
      refine odd_cell (x := "0") b2 ?_
      simp only [List.mem_cons, List.not_mem_nil, or_false] at hd1
      rcases hd1 with rfl | rfl | rfl | rfl | rfl | rfl | rfl | rfl | rfl
      · exact .inl ⟨_, rfl, by omega⟩
      · exact .inl ⟨_, rfl, by omega⟩
      · exact .inr (.inl ⟨_, rfl⟩)
      · exact .inr (.inr (.inl rfl))
      · exact .inr (.inr (.inr (.inl rfl)))
      · exact .inr (.inr (.inr (.inr rfl)))
      · exact .inl ⟨_, rfl, .inr (Int.lt_of_le_of_lt (show (hg p : Int) - 1 ≤ 23 by omega) (by decide))⟩
      · exact .inr (.inl ⟨_, rfl⟩)
      · exact .inl ⟨_, rfl, by omega⟩
    have s5 := Same.mut (o := .lst [.int (-1), .int (hg p : Nat), .bl true, .non, .str "0", .ref t2, .int (10 ^ (20 : Int).toNat), .bl false, .int (-1 - (hg p : Nat))]) s4 (Same.free s4 hl2)
    have hdn2 := hdn.ext (Same.new (o := .lst [.int (-1), .int (hg p : Nat), .bl true, .non, .str "0", .ref t2, .int (10 ^ (20 : Int).toNat), .bl false, .int (-1 - (hg p : Nat))]) hl2)
    have hodd3 := hodd2.ext s5
    have hbad4 := hbad3.same s5
    revert e5 hdn2 hodd3 hbad4
    generalize upd H4 l2 (.lst [.int (-1), .int (hg p : Nat), .bl true, .non, .str "0", .ref t2, .int (10 ^ (20 : Int).toNat), .bl false, .int (-1 - (hg p : Nat))]) = H5
    intro e5 hdn2 hodd3 hbad4
    refine ⟨_, rfl, 0, bad, _, _, true, rfl, fun H6 e6 => ?_, .inl ⟨rfl, .inl rfl, hbad4⟩⟩
    refine ⟨rfl, _, rfl, ?_⟩
    rw [decide_eq_true (show V.str (wordOf true) = V.str "value picture" from rfl)]
    refine iteF ?_
    refine ⟨_, rfl, _, rfl, _, rfl, 1, bad, odd, dn, true, rfl, fun H7 e7 => ?_, .inl ⟨rfl, .inr rfl, hbad4.same e6⟩⟩
    refine ⟨rfl, _, rfl, ?_⟩
    rw [decide_eq_true (show V.str (wordOf true) = V.str "value picture" from rfl)]
    refine iteF ?_
    have e8 : Same H H7 := fun b o h => e7 _ _ (e6 _ _ (e5 _ _ h))
    have s8 : Same H5 H7 := fun b o h => e7 _ _ (e6 _ _ h)
    have zero_cell : ∀ m : Int, 1 ≤ m → CellB K H7 0 (m - 1) (.int 0) true := fun m hm => .inl ⟨0, rfl, by rw [decide_eq_true (by omega), decide_eq_true (by omega)]; rfl⟩
    refine ⟨_, rfl, _, rfl, 1, .ref a, odd, .int 0, false, rfl, fun H9 e9 => ?_, .inr ⟨rfl, rfl, a, rs, p, false, true, rfl, A1.xt (Same.xt e8), g, hodd3.ext s8, zero_cell _ hz.1, rfl⟩⟩
    refine ⟨rfl, ?_⟩
    rw [decide_eq_true (show V.str (wordOf false) = V.str "value place" from rfl)]
    refine ⟨true, rfl, iteT ?_⟩
    have e10 : Same H H9 := fun b o h => e9 _ _ (e8 _ _ h)
    refine ⟨_, rfl, _, rfl, _, _, rfl, rfl, _, rfl, 1, .ref a, .int ((wd p : Nat) - 1), dn, false, rfl, fun H11 e11 => ?_, .inr ⟨rfl, rfl, a, rs, p, true, false, rfl, A1.xt (Same.xt e10), g, .inl ⟨_, rfl, ?_⟩, (hdn2.ext s8).ext e9, rfl⟩⟩
    · refine ⟨rfl, ?_⟩
      rw [decide_eq_true (show V.str (wordOf false) = V.str "value place" from rfl)]
      exact k _ fun b o h => e11 _ _ (e10 _ _ h)
    · rw [decide_eq_true (by omega), decide_eq_true (by omega)]
      rfl
end
end Cf

set_option Elab.async false
set_option linter.all false
set_option maxRecDepth 100000
set_option maxHeartbeats 8000000
namespace Cf
open PySem PySem.Spec PyProof.Rows L2
/-! ### wrong pictures -/
theorem cut_lo1 (xs : List V) (k : Nat) : cutV xs (some ((k : Int) + 1)) none = xs.drop (k + 1) := cut_lo xs (k + 1)
theorem paired_drop {α β : Type} {F : α → β → Prop} : ∀ {l : List α} {m : List β} (n : Nat), Paired F l m → Paired F (l.drop n) (m.drop n)
  | _, _, 0, h => h
  | _, _, _ + 1, .nil => .nil
  | _, _, n + 1, .cons r t => paired_drop n t
theorem s_ifG {t : TT} {t1 t2 : TS} {D : Ends} {σ : L2.St} {H : Hp} (Pst : L2.St → Hp → Prop) (h : (∀ σ' H', Pst σ' H' → D.nx σ' H') → tIfS t t1 t2 D σ H) (k : ∀ σ' H', Pst σ' H' → D.nx σ' H') : tIfS t t1 t2 D σ H := h k
section
variable {K : PySem.W.Frag} {H : Hp}
theorem rowB_of {b : Addr} {row : List Int} (h : H b = some (.lst (row.map V.int))) (hl : row.length ≤ 1000) (hc : ∀ c ∈ row, (0 : Int) ≤ c ∧ c ≤ 15) : RowB K H (.ref b) true := by
  have z : ∀ l : List Int, (∀ c ∈ l, (0 : Int) ≤ c ∧ c ≤ 15) → Paired (CellB K H 0 15) (l.map V.int) (l.map fun _ => true) := fun l => by
    induction l with
    | nil => exact fun _ => .nil
    | cons c l ih =>
      intro h
      refine .cons ?_ (ih fun d hd => h d (List.mem_cons_of_mem _ hd))
      have := h c List.mem_cons_self
      exact .inl ⟨c, rfl, by simp [this.1, this.2]⟩
  exact .inr ⟨b, _, _, rfl, h, by rw [List.length_map]; exact hl, z row hc, (all_true _).symm⟩
theorem cells_of {l : List Int} (hc : ∀ c ∈ l, (0 : Int) ≤ c ∧ c ≤ 15) : Paired (CellB K H 0 15) (l.map V.int) (l.map fun _ => true) := by
  induction l with
  | nil => exact .nil
  | cons c l ih =>
    refine .cons ?_ (ih fun d hd => hc d (List.mem_cons_of_mem _ hd))
    have := hc c List.mem_cons_self
    exact .inl ⟨c, rfl, by simp [this.1, this.2]⟩
/-- a row with an odd cell -/
theorem row_odd {b : Addr} {l m : List Int} {v : V} (h : H b = some (.lst (l.map V.int ++ [v] ++ m.map V.int))) (hl : l.length + m.length ≤ 100) (h1 : ∀ c ∈ l, (0 : Int) ≤ c ∧ c ≤ 15) (h2 : ∀ c ∈ m, (0 : Int) ≤ c ∧ c ≤ 15) (hv : CellB K H 0 15 v false) : RowB K H (.ref b) false := by
  refine .inr ⟨b, _, _, rfl, h, ?_, paired_app (paired_app (cells_of h1) (.cons hv .nil)) (cells_of h2), ?_⟩
  · simp only [List.length_append, List.length_map, List.length_singleton]
    omega
  · simp
theorem rows_of {bs : List Addr} {qs : List (List Int)} {w : Nat} (hp : Paired (fun b row => H b = some (.lst ((row : List Int).map V.int))) bs qs) (hw : w ≤ 24) (hr : ∀ r ∈ qs, r.length = w ∧ ∀ c ∈ r, (0 : Int) ≤ c ∧ c ≤ 15) :
    Paired (RowB K H) (bs.map V.ref) (qs.map fun _ => true) ∧ Paired (LenB H) (bs.map V.ref) (qs.map fun _ => w) := by
  induction hp with
  | nil => exact ⟨.nil, .nil⟩
  | @cons b r bs qs h hp ih =>
    obtain ⟨i1, i2⟩ := ih fun r hr' => hr r (List.mem_cons_of_mem _ hr')
    obtain ⟨r1, r2⟩ := hr r List.mem_cons_self
    exact ⟨.cons (rowB_of h (by omega) r2) i1, .cons ⟨_, _, rfl, h, by rw [List.length_map, r1]⟩ i2⟩
/-- a picture with one spoilt row -/
theorem pic_spoilt {a t : Addr} {rs : List Addr} {p : Pic} {y : Nat} {v : V} (A : PicAt H a rs p) (g : Good p) (hy : y < hg p) (ht : H t = some (.lst ((rs.map V.ref).take y ++ [v] ++ (rs.map V.ref).drop (y + 1))))
    (hv : RowB K H v false ∨ (2 ≤ hg p ∧ RowB K H v true ∧ ∃ m, LenB H v m ∧ m ≠ wd p)) : PicB K H (.ref t) false := by
  have len := A.len
  have h1 := g.h1
  have h2 := g.h2
  have w2 := g.w2
  have hr : ∀ r ∈ p, r.length = wd p ∧ ∀ c ∈ r, (0 : Int) ≤ c ∧ c ≤ 15 := fun r hr => ⟨g.rows r hr, g.cells r hr⟩
  have p1 := paired_take y A.r
  have p2 := paired_drop (y + 1) A.r
  obtain ⟨q1, q3⟩ := rows_of (K := K) p1 w2 fun r hm => hr r (List.mem_of_mem_take hm)
  obtain ⟨q2, q4⟩ := rows_of (K := K) p2 w2 fun r hm => hr r (List.mem_of_mem_drop hm)
  rw [← List.map_take, ← List.map_drop] at ht
  have hlen : ((rs.take y).map V.ref ++ [v] ++ (rs.drop (y + 1)).map V.ref).length = hg p := by
    simp only [List.length_append, List.length_map, List.length_singleton, List.length_take, List.length_drop, len]
    omega
  refine .inr ⟨t, _, rfl, ht, by rw [hlen]; omega, .inr ⟨by rw [hlen]; exact h1, by rw [hlen]; exact h2, ?_⟩⟩
  rcases hv with hv | ⟨hh, hv, m, hm, hne⟩
  · exact ⟨_, paired_app (paired_app q1 (.cons hv .nil)) q2, .inl ⟨by simp, rfl⟩⟩
  · refine ⟨_, paired_app (paired_app q1 (.cons hv .nil)) q2, .inr ⟨by rw [List.all_append, List.all_append, all_true, all_true]; rfl, _, paired_app (paired_app q3 (.cons hm .nil)) q4, ?_⟩⟩
    symm
    cases y with
    | zero =>
      have e : ∃ r0 r1 p', p = r0 :: r1 :: p' := by
        match p, hh with
        | r0 :: r1 :: p', _ => exact ⟨r0, r1, p', rfl⟩
        | [_], hh => exact absurd hh (by show ¬ 2 ≤ 1; decide)
        | [], hh => exact absurd hh (by show ¬ 2 ≤ 0; decide)
      obtain ⟨r0, r1, p', e⟩ := e
      have hd : (p.drop (0 + 1)).map (fun _ => wd p) = wd p :: p'.map fun _ => wd p := by
        conv => lhs; arg 2; rw [e]
        rfl
      rw [hd, List.take_zero]
      simp only [List.map_nil, List.nil_append, List.singleton_append, List.headD_cons, List.all_cons]
      have : (wd p == m) = false := beq_eq_false_iff_ne.mpr fun z => hne z.symm
      rw [this]
      simp
    | succ y =>
      have e : ∃ r0 p', p = r0 :: p' := by
        match p, hh with
        | r0 :: p', _ => exact ⟨r0, p', rfl⟩
        | [], hh => exact absurd hh (by show ¬ 2 ≤ 0; decide)
      obtain ⟨r0, p', e⟩ := e
      have hd : (p.take (y + 1)).map (fun _ => wd p) = wd p :: (p'.take y).map fun _ => wd p := by
        conv => lhs; arg 2; rw [e]
        rfl
      rw [hd]
      simp only [List.cons_append, List.headD_cons, List.all_cons, List.all_append]
      have : (m == wd p) = false := beq_eq_false_iff_ne.mpr hne
      rw [this]
      simp
end
theorem new_step {H Hk : Hp} {t : Addr} (o : HO) (e : Same H Hk) (ht : Hk t = none) : ∃ H', upd Hk t o = H' ∧ Same H H' ∧ Same Hk H' ∧ H' t = some o := ⟨_, rfl, Same.mut e (Same.free e ht), Same.new ht, upd_same⟩
/-- the rows to choose from -/
structure Zs (K : PySem.W.Frag) (H : Hp) (p : Pic) (v0 v1 v2 v6 : V) : Prop where
  h0 : RowB K H v0 false
  h1 : RowB K H v1 true ∧ ∃ m, LenB H v1 m ∧ m ≠ wd p
  h2 : RowB K H v2 false
  h6 : RowB K H v6 true ∧ ∃ m, LenB H v6 m ∧ m ≠ wd p
theorem LenB.same {H H' : Hp} {v : V} {m : Nat} (h : LenB H v m) (e : Same H H') : LenB H' v m := by
  obtain ⟨a, ys, h1, h2, h3⟩ := h
  exact ⟨a, ys, h1, e _ _ h2, h3⟩
theorem Zs.same {K : PySem.W.Frag} {H H' : Hp} {p : Pic} {v0 v1 v2 v6 : V} (z : Zs K H p v0 v1 v2 v6) (e : Same H H') : Zs K H' p v0 v1 v2 v6 := by
  obtain ⟨m1, x1, y1⟩ := z.h1.2
  obtain ⟨m6, x6, y6⟩ := z.h6.2
  exact ⟨z.h0.ext e, ⟨z.h1.1.ext e, m1, x1.same e, y1⟩, z.h2.ext e, ⟨z.h6.1.ext e, m6, x6.same e, y6⟩⟩
section
variable {P : Program} {w : World} {K : PySem.W.Frag} {mg : Str → Option Value} {base : Heap} {CP CO CF S a0 a1 a2 a3 c Pt : Addr}
theorem ok_l_wrong_picture (D : Df K mg "_law_wrong_picture" s_l_wrong_picture) (T : Tx K mg CP CO CF S a0 a1 a2 a3) : Cal P w K mg base CX0 1 "_law_wrong_picture" ["_law_number", "_law_picture_here"] (spWrong K) := by
  refine cal_of D sc_l_wrong_picture (fun _ _ _ _ _ _ us hl => match us, hl with | [_, _], _ => rfl) (fun vs H Q E h => ?_) (fun f cdv A outer s H vs Q E hr h => ?_)
  · obtain ⟨n, a, rs, p, rfl, _⟩ := h
    rfl
  · obtain ⟨n, a, rs, p, rfl, n0, A1, g, k⟩ := h
    refine ⟨_, (pss_cons (ps_set (i := 2) sc_l_wrong_picture.nd rfl (by first | exact Or.inl rfl | exact Or.inr rfl) (pe_op op_mod (pe_op op_fdiv (pv 0) pe_int) (pe_callB (lenK (K := K) rfl) (by rfl) T.len PySem.boot_len (pa_cons (pv 1) pa_nil))))
      (pss_cons (ps_set (i := 3) sc_l_wrong_picture.nd rfl (by first | exact Or.inl rfl | exact Or.inr rfl) (pe_op op_mod (pe_op op_fdiv (pv 0) pe_int) (pe_callB (lenK (K := K) rfl) (by rfl) T.len PySem.boot_len (pa_cons (pe_ix (ixL (K := K) rfl) (pv 1) pe_int (fun _ _ => rfl)) pa_nil))))
      (pss_cons (ps_set (i := 4) sc_l_wrong_picture.nd rfl (by first | exact Or.inl rfl | exact Or.inr rfl) (pe_ix (ixL (K := K) rfl) (pe_lst (pa_cons pe_int (pa_cons (pe_un un_neg pe_int) (pa_cons pe_bl (pa_cons pe_non (pa_cons pe_str (pa_cons (pe_lst (pa_cons pe_int pa_nil)) (pa_cons (pe_op op_pow pe_int pe_int) (pa_cons pe_bl pa_nil))))))))) (pe_op op_mod (pe_op op_fdiv (pv 0) pe_int) pe_int) (fun _ _ => rfl)))
      (pss_cons (ps_set (i := 5) sc_l_wrong_picture.nd rfl (by first | exact Or.inl rfl | exact Or.inr rfl) (pe_ix (ixL (K := K) rfl) (pv 1) (pv 2) (fun _ _ => rfl)))
      (pss_cons (ps_set (i := 6) sc_l_wrong_picture.nd rfl (by first | exact Or.inl rfl | exact Or.inr rfl) (pe_lst (pa_cons (pe_op op_cat (pe_op op_cat (pe_slice (slK (K := K) rfl) (pv 5) po_none (po_some (pv 3))) (pe_lst (pa_cons (pv 4) pa_nil))) (pe_slice (slK (K := K) rfl) (pv 5) (po_some (pe_op op_add (pv 3) pe_int)) po_none)) (pa_cons (pe_op op_cat (pv 5) (pe_lst (pa_cons pe_int pa_nil))) (pa_cons (pe_callTy (tupK (K := K) rfl) (by rfl) T.tuple (by decide +kernel) (pa_cons (pv 5) pa_nil)) (pa_cons pe_non (pa_cons (pe_op op_strRep pe_str (pe_callB (lenK (K := K) rfl) (by rfl) T.len PySem.boot_len (pa_cons (pv 5) pa_nil))) (pa_cons (pe_lst pa_nil) (pa_cons (pe_slice (slK (K := K) rfl) (pv 5) po_none (po_some (pv 3))) pa_nil)))))))))
      (pss_cons (ps_set (i := 7) sc_l_wrong_picture.nd rfl (by first | exact Or.inl rfl | exact Or.inr rfl) (pe_op op_mod (pv 0) pe_int))
      (pss_cons (ps_if (PW.pt (pw_or (pt_cmpR op_lt (pv 7) pe_int (nomark _)) (pw_or1 (PW.pt (pw_and (pt_cmpR op_eq (pe_callB (lenK (K := K) rfl) (by rfl) T.len PySem.boot_len (pa_cons (pv 1) pa_nil)) pe_int (nomark _)) (pw_and1 (pt_cmpR (inSK (K := K) rfl) (pv 7) (pe_tup (pa_cons pe_int (pa_cons pe_int pa_nil))) (by rfl)))))))) (pss_one (ps_set (i := 6) sc_l_wrong_picture.nd rfl (by first | exact Or.inl rfl | exact Or.inr rfl) (pe_slice (slK (K := K) rfl) (pv 6) po_none (po_some pe_int)))) pss_nil)
      (pss_cons (ps_if (pt_cmpR op_eq (pv 7) pe_int (nomark _)) (pss_one (ps_ret (pe_ix (ixL (K := K) rfl) (pe_lst (pa_cons pe_non (pa_cons (pe_lst pa_nil) (pa_cons pe_str (pa_cons pe_int (pa_cons pe_dnewT (pa_cons (pe_tup pa_nil) (pa_cons (pe_callTy (tupK (K := K) rfl) (by rfl) T.tuple (by decide +kernel) (pa_cons (pv 1) pa_nil)) pa_nil)))))))) (pe_op op_mod (pe_op op_fdiv (pv 0) pe_int) pe_int) (fun _ _ => rfl)))) pss_nil)
      (pss_cons (ps_if (pt_cmpR op_eq (pv 7) pe_int (nomark _)) (pss_one (ps_ret (pe_slice (slK (K := K) rfl) (pe_op op_rep (pv 1) pe_int) po_none (po_some pe_int)))) pss_nil)
      (pss_cons (ps_if (pt_cmpR op_eq (pv 7) pe_int (nomark _)) (pss_one (ps_ret (pe_lc (own := [("_law_row", 5)]) (g := gName 5) (tt := tYes) rfl sc_l_wrong_picture.nd (pi_list (pv 1)) (blkOk_by (N := N_l_wrong_picture) (sc := defScope s_l_wrong_picture) (by decide +kernel)) (fun _ _ _ _ _ => (pg_name (i := 5) sc_l_wrong_picture.nd rfl (by first | exact Or.inl rfl | exact Or.inr rfl))) (fun _ _ _ _ _ => pts_nil) (fun _ _ _ _ _ => (pe_op op_rep (pe_lst (pa_cons pe_int pa_nil)) pe_int))))) pss_nil)
      (pss_cons (ps_set (i := 8) sc_l_wrong_picture.nd rfl (by first | exact Or.inl rfl | exact Or.inr rfl) (pe_ix (ixL (K := K) rfl) (pv 6) (pe_callB (call_min2 rfl) (by rfl) T.min (by decide +kernel) (pa_cons (pe_op op_sub (pe_callB (lenK (K := K) rfl) (by rfl) T.len PySem.boot_len (pa_cons (pv 6) pa_nil)) pe_int) (pa_cons (pe_ix (ixL (K := K) rfl) (pe_lst (pa_cons pe_int (pa_cons pe_int (pa_cons pe_int (pa_cons pe_int (pa_cons pe_int (pa_cons pe_int (pa_cons pe_int (pa_cons pe_int (pa_cons pe_int (pa_cons pe_int (pa_cons pe_int (pa_cons pe_int pa_nil))))))))))))) (pv 7) (fun _ _ => rfl)) pa_nil))) (fun _ _ => rfl)))
      (pss_one (ps_ret (pe_op op_cat (pe_op op_cat (pe_slice (slK (K := K) rfl) (pv 1) po_none (po_some (pv 2))) (pe_lst (pa_cons (pv 8) pa_nil))) (pe_slice (slK (K := K) rfl) (pv 1) (po_some (pe_op op_add (pv 2) pe_int)) po_none))))))))))))))), ?_⟩
    have h1 := g.h1
    have w1 := g.w1
    have h2 := g.h2
    have w2 := g.w2
    obtain ⟨r0, row0, y1, y2, y3⟩ := A1.first g
    obtain ⟨yn, hyn⟩ : ∃ yn : Nat, n / 12 % (hg p : Int) = yn := ⟨(n / 12 % (hg p : Int)).toNat, (Int.toNat_of_nonneg (Int.emod_nonneg _ (by omega))).symm⟩
    obtain ⟨xn, hxn⟩ : ∃ xn : Nat, n / 300 % (wd p : Int) = xn := ⟨(n / 300 % (wd p : Int)).toNat, (Int.toNat_of_nonneg (Int.emod_nonneg _ (by omega))).symm⟩
    have yl : yn < hg p := by
      have := Int.emod_lt_of_pos (n / 12) (show (0 : Int) < (hg p : Int) by omega)
      omega
    have xl : xn < wd p := by
      have := Int.emod_lt_of_pos (n / 300) (show (0 : Int) < (wd p : Int) by omega)
      omega
    refine go_seq (s_set (v := .int (yn : Nat)) ?_ ?_)
    · rw [← hyn]
      exact vl_mod (vl_div (val_var rfl) val_c ⟨by decide, by decide⟩) (vl_lenL (val_var rfl) (SqL.of A1.o) A1.high) (by omega)
    dsimp only
    refine go_seq (s_set (v := .int (xn : Nat)) ?_ ?_)
    · rw [← hxn]
      exact vl_mod (vl_div (val_var rfl) val_c ⟨by decide, by decide⟩) (vl_lenL (vl_ixL (val_var rfl) val_c (SqL.of A1.o) y1) (SqL.of y2) y3) (by omega)
    dsimp only
    have e0 : Same H H := fun _ _ h => h
    refine ⟨_, rfl, by show 1 ≤ sizeLine; decide, fun t1 ht1 => ?_⟩
    obtain ⟨H1, q1, e1, s1, b1⟩ := new_step (.lst [.int 0]) e0 ht1
    rw [q1]
    refine ⟨_, _, rfl, rfl, ⟨by decide, by decide, by decide⟩, by show 8 ≤ sizeLine; decide, fun l1 hl1 => ?_⟩
    obtain ⟨odd, ho1, ho2⟩ := at_all (xs := [.int 16, .int (-1), .bl true, .non, .str "0", .ref t1, .int (10 ^ (20 : Int).toNat), .bl false]) (i := n / 7200 % 8) (by omega) (by show _ < (8 : Int); omega)
    obtain ⟨H2, q2, e2, s2, b2⟩ := new_step (.lst [.int 16, .int (-1), .bl true, .non, .str "0", .ref t1, .int (10 ^ (20 : Int).toNat), .bl false]) e1 hl1
    rw [q2]
    refine ⟨_, rfl, _, _, rfl, rfl, ⟨by decide, by decide⟩, _, _, rfl, rfl, (by decide : (0 : Int) < 8), l1, _, _, _, rfl, rfl, SqL.of b2, ho2, ?_⟩
    have hodd : CellB K H2 0 15 odd false := by
      refine odd_cell (x := "0") (s2 _ _ b1) ?_
      simp only [List.mem_cons, List.not_mem_nil, or_false] at ho1
      rcases ho1 with rfl | rfl | rfl | rfl | rfl | rfl | rfl | rfl
      · exact .inl ⟨_, rfl, by omega⟩
      · exact .inl ⟨_, rfl, by omega⟩
      · exact .inr (.inl ⟨_, rfl⟩)
      · exact .inr (.inr (.inl rfl))
      · exact .inr (.inr (.inr (.inl rfl)))
      · exact .inr (.inr (.inr (.inr rfl)))
      · exact .inl ⟨_, rfl, .inr (by decide)⟩
      · exact .inr (.inl ⟨_, rfl⟩)
    have A2 := A1.xt (Same.xt e2)
    obtain ⟨row, hrow, hrl⟩ := g.row yl
    obtain ⟨rb, hrb, hrb2⟩ := A2.row hrow
    have hcells := g.cells row (List.mem_of_getElem? hrow)
    refine ⟨_, rfl, _, rfl, _, _, _, _, rfl, rfl, SqL.of A2.o, atI_nat hrb, ?_⟩
    -- row[:x] + [odd] + row[x + 1:]
    refine ⟨_, rfl, _, rfl, _, rfl, rb, _, rfl, SqL.of hrb2, fun t3 ht3 => ?_⟩
    rw [cut_hi]
    obtain ⟨H3, q3, e3, s3, b3⟩ := new_step (.lst ((row.map V.int).take xn)) e2 ht3
    rw [q3]
    refine ⟨_, rfl, by show 1 ≤ sizeLine; decide, fun t4 ht4 => ?_⟩
    obtain ⟨H4, q4, e4, s4, b4⟩ := new_step (.lst [odd]) e3 ht4
    rw [q4]
    have rlen : (row.map V.int).length ≤ 24 := by rw [List.length_map]; omega
    have ztake : ((row.map V.int).take xn).length ≤ 24 := Nat.le_trans (List.length_take_le _ _) (by omega)
    have zdrop : ((row.map V.int).drop (xn + 1)).length ≤ 24 := by rw [List.length_drop]; omega
    have sz : ∀ m : Nat, m ≤ 1000 → m ≤ sizeLine := fun m hm => by unfold sizeLine; omega
    refine ⟨t3, t4, _, _, rfl, rfl, s4 _ _ b3, b4, sz _ (by rw [List.length_singleton]; omega), fun t5 ht5 => ?_⟩
    obtain ⟨H5, q5, e5, s5, b5⟩ := new_step (.lst ((row.map V.int).take xn ++ [odd])) e4 ht5
    rw [q5]
    have r5 : H5 rb = some (.lst (row.map V.int)) := s5 _ _ (s4 _ _ (s3 _ _ hrb2))
    refine ⟨_, rfl, _, rfl, _, _, rfl, rfl, _, rfl, rb, _, rfl, SqL.of r5, fun t6 ht6 => ?_⟩
    rw [cut_lo1]
    obtain ⟨H6, q6, e6, s6, b6⟩ := new_step (.lst ((row.map V.int).drop (xn + 1))) e5 ht6
    rw [q6]
    refine ⟨t5, t6, _, _, rfl, rfl, s6 _ _ b5, b6, sz _ (by rw [List.length_append, List.length_singleton]; omega), fun v0 hv0 => ?_⟩
    obtain ⟨H7, q7, e7, s7, b7⟩ := new_step (.lst ((row.map V.int).take xn ++ [odd] ++ (row.map V.int).drop (xn + 1))) e6 hv0
    rw [q7]
    have r7 : H7 rb = some (.lst (row.map V.int)) := s7 _ _ (s6 _ _ r5)
    have z0 : RowB K H7 (.ref v0) false := by
      rw [← List.map_take, ← List.map_drop] at b7
      refine row_odd b7 ?_ (fun c hc => hcells c (List.mem_of_mem_take hc)) (fun c hc => hcells c (List.mem_of_mem_drop hc)) (hodd.ext fun b o h => s7 _ _ (s6 _ _ (s5 _ _ (s4 _ _ (s3 _ _ h)))))
      rw [List.length_take, List.length_drop]
      omega
    -- row + [0]
    refine ⟨_, rfl, by show 1 ≤ sizeLine; decide, fun t8 ht8 => ?_⟩
    obtain ⟨H8, q8, e8, s8, b8⟩ := new_step (.lst [.int 0]) e7 ht8
    rw [q8]
    have r8 : H8 rb = some (.lst (row.map V.int)) := s8 _ _ r7
    refine ⟨rb, t8, _, _, rfl, rfl, r8, b8, sz _ (by rw [List.length_singleton]; omega), fun v1 hv1 => ?_⟩
    obtain ⟨H9, q9, e9, s9, b9⟩ := new_step (.lst (row.map V.int ++ [.int 0])) e8 hv1
    rw [q9]
    have z1 : RowB K H9 (.ref v1) true ∧ ∃ m, LenB H9 (.ref v1) m ∧ m ≠ wd p := by
      have b9' : H9 v1 = some (.lst ((row ++ [0]).map V.int)) := by
        rw [b9, List.map_append]
        rfl
      refine ⟨rowB_of b9' ?_ fun c hc => ?_, wd p + 1, ⟨v1, _, rfl, b9', ?_⟩, by omega⟩
      · rw [List.length_append, List.length_singleton]
        omega
      · rcases List.mem_append.mp hc with hc | hc
        · exact hcells c hc
        · rw [List.mem_singleton] at hc
          subst hc
          exact ⟨by decide, by decide⟩
      · rw [List.length_map, List.length_append, List.length_singleton, hrl]
    have r9 : H9 rb = some (.lst (row.map V.int)) := s9 _ _ r8
    -- tuple(row)
    refine ⟨_, rfl, rb, _, rfl, .inl ⟨SqL.of r9, fun v2 hv2 => ?_⟩⟩
    obtain ⟨H10, q10, e10, s10, b10⟩ := new_step (.tup (row.map V.int)) e9 hv2
    rw [q10]
    have z2 : RowB K H10 (.ref v2) false := .inl ⟨⟨_, .base (.tup b10), by decide +kernel⟩, rfl⟩
    have r10 : H10 rb = some (.lst (row.map V.int)) := s10 _ _ r9
    -- '0' * len(row)
    refine ⟨_, rfl, _, (row.map V.int).length, rfl, .inl ⟨_, SqL.of r10, rfl⟩, _, _, rfl, rfl, by omega, by omega, by decide, fun us _ _ => ?_⟩
    -- []
    refine ⟨by show 0 ≤ sizeLine; decide, fun v5 hv5 => ?_⟩
    obtain ⟨H11, q11, e11, s11, b11⟩ := new_step (.lst []) e10 hv5
    rw [q11]
    have r11 : H11 rb = some (.lst (row.map V.int)) := s11 _ _ r10
    -- row[:x]
    refine ⟨_, rfl, _, rfl, _, rfl, rb, _, rfl, SqL.of r11, fun v6 hv6 => ?_⟩
    rw [cut_hi]
    obtain ⟨H12, q12, e12, s12, b12⟩ := new_step (.lst ((row.map V.int).take xn)) e11 hv6
    rw [q12]
    have z6 : RowB K H12 (.ref v6) true ∧ ∃ m, LenB H12 (.ref v6) m ∧ m ≠ wd p := by
      rw [← List.map_take] at b12
      refine ⟨rowB_of b12 ?_ fun c hc => hcells c (List.mem_of_mem_take hc), xn, ⟨v6, _, rfl, b12, ?_⟩, by omega⟩
      · rw [List.length_take]
        omega
      · rw [List.length_map, List.length_take]
        omega
    refine ⟨by show 7 ≤ sizeLine; decide, fun R hR => ?_⟩
    obtain ⟨H13, q13, e13, s13, b13⟩ := new_step (.lst [.ref v0, .ref v1, .ref v2, .non, .str us, .ref v5, .ref v6]) e12 hR
    rw [q13]
    have Z : Zs K H13 p (.ref v0) (.ref v1) (.ref v2) (.ref v6) := by
      have w7 : Same H7 H12 := fun b o h => s12 _ _ (s11 _ _ (s10 _ _ (s9 _ _ (s8 _ _ h))))
      have w9 : Same H9 H12 := fun b o h => s12 _ _ (s11 _ _ (s10 _ _ h))
      have w10 : Same H10 H12 := fun b o h => s12 _ _ (s11 _ _ h)
      obtain ⟨m1, x1, x2⟩ := z1.2
      exact Zs.same ⟨z0.ext w7, ⟨z1.1.ext w9, m1, x1.same w9, x2⟩, z2.ext w10, z6⟩ s13
    clear z0 z1 z2 z6 b1 b2 b3 b4 b5 b6 b7 b8 b9 b10 b11 b12 r5 r7 r8 r9 r10 r11
    obtain ⟨wh, hwh⟩ : ∃ wh, wh = n % 12 := ⟨_, rfl⟩
    have wb : 0 ≤ wh ∧ wh < 12 := by omega
    dsimp only [gName]
    refine go_seq (s_set (v := .int wh) ?_ ?_)
    · rw [hwh]
      exact vl_mod (val_var rfl) val_c (by decide)
    dsimp only
    refine go_seq ?_
    refine s_ifG (fun σ' H' => ∃ R zs, σ' = [some (.int n), some (.ref a), some (.int (yn : Nat)), some (.int (xn : Nat)), some odd, some (.ref rb), some (.ref R), some (.int wh), none] ∧ Same H H' ∧ Same H13 H' ∧ H' R = some (.lst zs) ∧
      (zs = [.ref v0] ∨ (zs = [.ref v0, .ref v1, .ref v2, .non, .str us, .ref v5, .ref v6] ∧ 6 ≤ wh ∧ (hg p = 1 → wh ≠ 7 ∧ wh ≠ 11)))) (fun k => ?_) ?_
    · have A13 := A1.xt (Same.xt e13)
      have cut : ∀ H' : Hp, Same H H' → Same H13 H' → ∀ D : Ends, (∀ σ' H', (∃ R zs, σ' = [some (.int n), some (.ref a), some (.int (yn : Nat)), some (.int (xn : Nat)), some odd, some (.ref rb), some (.ref R), some (.int wh), none] ∧ Same H H' ∧ Same H13 H' ∧ H' R = some (.lst zs) ∧
          (zs = [.ref v0] ∨ (zs = [.ref v0, .ref v1, .ref v2, .non, .str us, .ref v5, .ref v6] ∧ 6 ≤ wh ∧ (hg p = 1 → wh ≠ 7 ∧ wh ≠ 11)))) → D.nx σ' H') →
          tAsg (tSl (rSlL K) (tVar 6) tNoPart (tPart (tC (.int 1)))) (gName 6) D [some (.int n), some (.ref a), some (.int (yn : Nat)), some (.int (xn : Nat)), some odd, some (.ref rb), some (.ref R), some (.int wh), none] H' := fun H' z1 z2 D k => by
        refine ⟨_, rfl, _, rfl, R, _, rfl, SqL.of (z2 _ _ b13), fun R2 hR2 => ?_⟩
        obtain ⟨H14, q14, e14, s14, b14⟩ := new_step (.lst [.ref v0]) z1 hR2
        have ec : cutV [V.ref v0, .ref v1, .ref v2, .non, .str us, .ref v5, .ref v6] none (some 1) = [V.ref v0] := cut_hi _ 1
        rw [ec, q14]
        exact k _ _ ⟨R2, _, rfl, e14, fun b o h => s14 _ _ (z2 _ _ h), b14, .inl rfl⟩
      refine ⟨_, rfl, _, _, rfl, rfl, _, rfl, ?_⟩
      by_cases c1 : wh < 6
      · rw [decide_eq_true c1]
        refine iteT (iteT ?_)
        exact cut _ e13 (fun _ _ h => h) _ k
      · rw [decide_eq_false c1]
        refine iteF ?_
        refine ⟨_, rfl, _, hg p, rfl, .inl ⟨_, SqL.of A13.o, by rw [List.length_map, A1.len]⟩, rfl, _, rfl, ?_⟩
        by_cases c2 : hg p = 1
        · rw [decide_eq_true (show V.int (hg p : Nat) = V.int 1 by rw [c2]; rfl)]
          refine iteT ?_
          refine ⟨_, rfl, by show 2 ≤ sizeLine; decide, fun tt htt => ?_⟩
          obtain ⟨H14, q14, e14, s14, b14⟩ := new_step (.tup [.int 7, .int 11]) e13 htt
          rw [q14]
          refine ⟨tt, _, rfl, .inr (SqT.of b14), rfl, rfl, _, rfl, ?_⟩
          show (if inV (V.int wh) [V.int 7, V.int 11] = true then _ else _)
          cases hb : inV (V.int wh) [V.int 7, V.int 11] with
          | true => exact iteT (cut _ e14 s14 _ k)
          | false => exact iteF (k _ _ ⟨R, _, rfl, e14, s14, s14 _ _ b13, .inr ⟨rfl, by omega, fun z => ⟨fun e => by rw [e] at hb; exact absurd hb (by decide), fun e => by rw [e] at hb; exact absurd hb (by decide)⟩⟩⟩)
        · rw [decide_eq_false (show ¬ V.int (hg p : Nat) = V.int 1 from fun z => c2 (by have := V.int.inj z; omega))]
          refine iteF (iteF ?_)
          exact k _ _ ⟨R, _, rfl, e13, fun _ _ h => h, b13, .inr ⟨rfl, by omega, fun z => absurd z c2⟩⟩
    · rintro σ1 H14 ⟨R2, zs, rfl, e14, s14, b14, hzs⟩
      have A14 := A1.xt (Same.xt e14)
      dsimp only
      refine go_seq (s_if (an_eqI (val_var rfl) val_c) (fun hb => ?_) (fun hb8 => ?_))
      · refine ⟨by show 0 ≤ sizeLine; decide, fun t15 ht15 => ?_⟩
        obtain ⟨H15, q15, e15, s15, b15⟩ := new_step (.lst []) e14 ht15
        rw [q15]
        refine fun d hd => ?_
        obtain ⟨H16, q16, e16, s16, b16⟩ := new_step (.dT []) e15 hd
        rw [q16]
        refine ⟨by show 0 ≤ sizeLine; decide, fun t17 ht17 => ?_⟩
        obtain ⟨H17, q17, e17, s17, b17⟩ := new_step (.tup []) e16 ht17
        rw [q17]
        refine ⟨_, rfl, a, _, rfl, .inl ⟨SqL.of (e17 _ _ A1.o), fun t18 ht18 => ?_⟩⟩
        obtain ⟨H18, q18, e18, s18, b18⟩ := new_step (.tup (rs.map V.ref)) e17 ht18
        rw [q18]
        refine ⟨by show 7 ≤ sizeLine; decide, fun l hl => ?_⟩
        obtain ⟨H19, q19, e19, s19, b19⟩ := new_step (.lst [.non, .ref t15, .str "0", .int 5, .ref d, .ref t17, .ref t18]) e18 hl
        rw [q19]
        obtain ⟨v, hv1, hv2⟩ := at_all (xs := [.non, .ref t15, .str "0", .int 5, .ref d, .ref t17, .ref t18]) (i := n / 7200 % 7) (by omega) (by show _ < (7 : Int); omega)
        refine ⟨_, rfl, _, _, rfl, rfl, ⟨by decide, by decide⟩, _, _, rfl, rfl, (by decide : (0 : Int) < 7), l, _, _, _, rfl, rfl, SqL.of b19, hv2, k _ v e19 ?_⟩
        have w15 : Same H15 H19 := fun b o h => s19 _ _ (s18 _ _ (s17 _ _ (s16 _ _ h)))
        simp only [List.mem_cons, List.not_mem_nil, or_false] at hv1
        rcases hv1 with rfl | rfl | rfl | rfl | rfl | rfl | rfl
        · exact .inl ⟨not_non (by decide +kernel), rfl⟩
        · exact .inr ⟨t15, [], rfl, w15 _ _ b15, Nat.zero_le _, .inl ⟨by show ¬ (1 ≤ 0 ∧ _); omega, rfl⟩⟩
        · exact .inl ⟨not_str (by decide +kernel), rfl⟩
        · exact .inl ⟨⟨_, .base (.int 5), by decide +kernel⟩, rfl⟩
        · exact .inl ⟨⟨_, .base (.dT (s19 _ _ (s18 _ _ (s17 _ _ b16)))), by decide +kernel⟩, rfl⟩
        · exact .inl ⟨⟨_, .base (.tup (s19 _ _ (s18 _ _ b17))), by decide +kernel⟩, rfl⟩
        · exact .inl ⟨⟨_, .base (.tup (s19 _ _ b18)), by decide +kernel⟩, rfl⟩
      refine go_next ?_
      dsimp only
      refine go_seq (s_if (an_eqI (val_var rfl) val_c) (fun hb => ?_) (fun hb9 => ?_))
      · have rl : (rs.map V.ref).length = hg p := by rw [List.length_map, A1.len]
        refine ⟨_, rfl, a, 25, _, rfl, rfl, A14.o, by omega, by omega, ?_, fun t15 ht15 => ?_⟩
        · rw [rl]
          show hg p * 25 ≤ sizeLine
          unfold sizeLine
          omega
        obtain ⟨H15, q15, e15, s15, b15⟩ := new_step (.lst (List.replicate (25 : Int).toNat (rs.map V.ref)).flatten) e14 ht15
        rw [q15]
        refine ⟨_, rfl, t15, _, rfl, SqL.of b15, fun t16 ht16 => ?_⟩
        have ec := cut_hi (List.replicate (25 : Int).toNat (rs.map V.ref)).flatten 25
        have ec : cutV (List.replicate (25 : Int).toNat (rs.map V.ref)).flatten none (some 25) = _ := ec
        rw [ec]
        obtain ⟨H16, q16, e16, s16, b16⟩ := new_step (.lst ((List.replicate (25 : Int).toNat (rs.map V.ref)).flatten.take 25)) e15 ht16
        rw [q16]
        have l25 : ((List.replicate (25 : Int).toNat (rs.map V.ref)).flatten.take 25).length = 25 := by
          rw [List.length_take, List.length_flatten, List.map_replicate, List.sum_replicate_nat, rl]
          show min 25 (25 * hg p) = 25
          omega
        exact k _ _ e16 (.inr ⟨t16, _, rfl, b16, by rw [l25]; decide, .inl ⟨by rw [l25]; decide, rfl⟩⟩)
      refine go_next ?_
      dsimp only
      refine go_seq (s_if (an_eqI (val_var rfl) val_c) (fun hb => ?_) (fun hb10 => ?_))
      · refine ⟨_, rfl, a, rfl, ⟨_, SqL.of A14.o⟩, fun Dl hD => ?_⟩
        refine lc_list (K := K) (xs := rs.map V.ref) (fun i H' => Same H14 H' ∧ ∃ ls : List Addr, H' Dl = some (.lst (ls.map V.ref)) ∧ ls.length = i ∧ ∀ b ∈ ls, b ≠ Dl ∧ H' b = some (.lst ((List.replicate 25 (0 : Int)).map V.int))) ⟨Same.new hD, [], upd_same, rfl, fun b hb => nomatch hb⟩
          (fun i H' _ h => SqL.of (h.1 _ _ A14.o)) ?_ ?_
        · rintro i x H' hi ⟨e, ls, z1, z2, z3⟩
          have hil := (List.getElem?_eq_some_iff.mp hi).1
          rw [List.length_map, A1.len] at hil
          refine ⟨rfl, tyes_go ?_⟩
          refine ⟨by show 1 ≤ sizeLine; decide, fun t15 ht15 => ?_⟩
          obtain ⟨H15, q15, e15, s15, b15⟩ := new_step (.lst [.int 0]) e ht15
          rw [q15]
          refine ⟨t15, 25, _, rfl, rfl, b15, by omega, by omega, by decide, fun t16 ht16 => ?_⟩
          obtain ⟨H16, q16, e16, s16, b16⟩ := new_step (.lst (List.replicate (25 : Int).toNat [V.int 0]).flatten) e15 ht16
          rw [q16]
          have b16' : H16 t16 = some (.lst ((List.replicate 25 (0 : Int)).map V.int)) := by
            rw [b16, flat_rep, map_rep]
            rfl
          have zD := s16 _ _ (s15 _ _ z1)
          have n16 : t16 ≠ Dl := fun z => by
            rw [z, s15 _ _ z1] at ht16
            cases ht16
          refine ⟨ls.map V.ref, zD, ?_, Same.mut e16 hD, ls ++ [t16], ?_, ?_, fun b hb => ?_⟩
          · rw [List.length_map, z2]
            exact small1000 (by omega)
          · rw [upd_same, List.map_append]
            rfl
          · rw [List.length_append, z2]
            rfl
          · rcases List.mem_append.mp hb with hb | hb
            · obtain ⟨y1, y2⟩ := z3 b hb
              exact ⟨y1, by rw [upd_ne y1]; exact s16 _ _ (s15 _ _ y2)⟩
            · rw [List.mem_singleton] at hb
              subst hb
              exact ⟨n16, by rw [upd_ne n16]; exact b16'⟩
        · rintro H' ⟨e, ls, z1, z2, z3⟩
          rw [List.length_map, A1.len] at z2
          refine k _ _ (fun b o h => e _ _ (e14 _ _ h)) (.inr ⟨Dl, _, rfl, z1, by rw [List.length_map, z2]; omega, .inr ⟨by rw [List.length_map, z2]; exact h1, by rw [List.length_map, z2]; exact h2, ls.map fun _ => true, ?_, .inr ⟨all_true _, ls.map fun _ => 25, ?_, ?_⟩⟩⟩)
          · clear z1 z2
            induction ls with
            | nil => exact .nil
            | cons b ls ih => exact .cons (rowB_of (z3 b List.mem_cons_self).2 (by rw [List.length_replicate]; omega) fun c hc => by rw [(List.mem_replicate.mp hc).2]; exact ⟨by decide, by decide⟩) (ih fun b hb => z3 b (List.mem_cons_of_mem _ hb))
          · clear z1 z2
            induction ls with
            | nil => exact .nil
            | cons b ls ih => exact .cons ⟨_, _, rfl, (z3 b List.mem_cons_self).2, by rw [List.length_map, List.length_replicate]⟩ (ih fun b hb => z3 b (List.mem_cons_of_mem _ hb))
          · cases ls with
            | nil => exact absurd z2 (by show ¬ 0 = hg p; omega)
            | cons b ls => simp
      refine go_next ?_
      dsimp only
      have Z14 := Z.same s14
      obtain ⟨m, v, hm, hzv, hv⟩ : ∃ (m : Int) (v : V), atI (([0, 0, 0, 0, 0, 0, 2, 1, 0, 0, 0, 6] : List Int).map V.int) wh = some (.int m) ∧ atI zs (if m < (zs.length : Int) - 1 then m else (zs.length : Int) - 1) = some v ∧ (RowB K H14 v false ∨ (2 ≤ hg p ∧ RowB K H14 v true ∧ ∃ m, LenB H14 v m ∧ m ≠ wd p)) := by
        rcases hzs with rfl | ⟨rfl, w6, w7⟩
        · obtain ⟨m, hm1, hm2⟩ := at_ints (ns := [0, 0, 0, 0, 0, 0, 2, 1, 0, 0, 0, 6]) (i := wh) wb.1 wb.2
          have m0 : 0 ≤ m := by
            simp only [List.mem_cons, List.not_mem_nil, or_false] at hm1
            omega
          refine ⟨m, .ref v0, hm2, ?_, .inl Z14.h0⟩
          rw [if_neg (by show ¬ m < (1 : Int) - 1; omega)]
          exact atI_nat (j := 0) rfl
        · have c8 := of_decide_eq_false hb8
          have c9 := of_decide_eq_false hb9
          have c10 := of_decide_eq_false hb10
          rcases (show wh = 6 ∨ wh = 7 ∨ wh = 11 by omega) with e | e | e
          · rw [e]
            exact ⟨2, .ref v2, atI_nat (j := 6) rfl, atI_nat (j := 2) rfl, .inl Z14.h2⟩
          · have hh : 2 ≤ hg p := by
              rcases Nat.lt_or_ge (hg p) 2 with z | z
              · exact absurd e (w7 (by omega)).1
              · exact z
            rw [e]
            exact ⟨1, .ref v1, atI_nat (j := 7) rfl, atI_nat (j := 1) rfl, .inr ⟨hh, Z14.h1.1, Z14.h1.2⟩⟩
          · have hh : 2 ≤ hg p := by
              rcases Nat.lt_or_ge (hg p) 2 with z | z
              · exact absurd e (w7 (by omega)).2
              · exact z
            rw [e]
            exact ⟨6, .ref v6, atI_nat (j := 11) rfl, atI_nat (j := 6) rfl, .inr ⟨hh, Z14.h6.1, Z14.h6.2⟩⟩
      refine ⟨_, rfl, _, rfl, _, zs.length, rfl, .inl ⟨_, SqL.of b14, rfl⟩, _, _, rfl, rfl, by show 12 ≤ sizeLine; decide, fun tl htl => ?_⟩
      obtain ⟨H15, q15, e15, s15, b15⟩ := new_step (.lst (([0, 0, 0, 0, 0, 0, 2, 1, 0, 0, 0, 6] : List Int).map V.int)) e14 htl
      have q15' : upd H14 tl (.lst [.int 0, .int 0, .int 0, .int 0, .int 0, .int 0, .int 2, .int 1, .int 0, .int 0, .int 0, .int 6]) = H15 := q15
      rw [q15']
      refine ⟨_, rfl, tl, _, _, _, rfl, rfl, SqL.of b15, hm, _, _, rfl, R2, _, _, _, rfl, rfl, SqL.of (s15 _ _ b14), hzv, ?_⟩
      have A15 := A1.xt (Same.xt e15)
      have hv15 : RowB K H15 v false ∨ (2 ≤ hg p ∧ RowB K H15 v true ∧ ∃ m, LenB H15 v m ∧ m ≠ wd p) := by
        rcases hv with hv | ⟨x1, x2, m, x3, x4⟩
        · exact .inl (hv.ext s15)
        · exact .inr ⟨x1, x2.ext s15, m, x3.same s15, x4⟩
      refine ⟨_, rfl, _, rfl, _, rfl, a, _, rfl, SqL.of A15.o, fun t16 ht16 => ?_⟩
      rw [cut_hi]
      obtain ⟨H16, q16, e16, s16, b16⟩ := new_step (.lst ((rs.map V.ref).take yn)) e15 ht16
      rw [q16]
      refine ⟨_, rfl, by show 1 ≤ sizeLine; decide, fun t17 ht17 => ?_⟩
      obtain ⟨H17, q17, e17, s17, b17⟩ := new_step (.lst [v]) e16 ht17
      rw [q17]
      have rl : (rs.map V.ref).length = hg p := by rw [List.length_map, A1.len]
      have zt : ((rs.map V.ref).take yn).length ≤ 24 := Nat.le_trans (List.length_take_le _ _) (by omega)
      have zd : ((rs.map V.ref).drop (yn + 1)).length ≤ 24 := by rw [List.length_drop]; omega
      refine ⟨t16, t17, _, _, rfl, rfl, s17 _ _ b16, b17, sz _ (by rw [List.length_singleton]; omega), fun t18 ht18 => ?_⟩
      obtain ⟨H18, q18, e18, s18, b18⟩ := new_step (.lst ((rs.map V.ref).take yn ++ [v])) e17 ht18
      rw [q18]
      refine ⟨_, rfl, _, rfl, _, _, rfl, rfl, _, rfl, a, _, rfl, SqL.of (e18 _ _ A1.o), fun t19 ht19 => ?_⟩
      rw [cut_lo1]
      obtain ⟨H19, q19, e19, s19, b19⟩ := new_step (.lst ((rs.map V.ref).drop (yn + 1))) e18 ht19
      rw [q19]
      refine ⟨t18, t19, _, _, rfl, rfl, s19 _ _ b18, b19, sz _ (by rw [List.length_append, List.length_singleton]; omega), fun t20 ht20 => ?_⟩
      obtain ⟨H20, q20, e20, s20, b20⟩ := new_step (.lst ((rs.map V.ref).take yn ++ [v] ++ (rs.map V.ref).drop (yn + 1))) e19 ht20
      rw [q20]
      have w15 : Same H15 H20 := fun b o h => s20 _ _ (s19 _ _ (s18 _ _ (s17 _ _ (s16 _ _ h))))
      refine k _ _ e20 (pic_spoilt (A1.xt (Same.xt e20)) g yl b20 ?_)
      rcases hv15 with hv | ⟨x1, x2, m, x3, x4⟩
      · exact .inl (hv.ext w15)
      · exact .inr ⟨x1, x2.ext w15, m, x3.same w15, x4⟩
end
end Cf

set_option Elab.async false
set_option linter.all false
set_option maxRecDepth 100000
set_option maxHeartbeats 4000000
namespace Cf
open PySem PySem.Spec PyProof.Rows L2
/-! ### the border of the whole -/
def outB (w h : Nat) (r : Pl) : Bool := !decide (0 ≤ r.1 ∧ r.1 < (w : Int) ∧ 0 ≤ r.2 ∧ r.2 < (h : Int))
theorem bcnt_append (f : Pl → Bool) (l m : List Pl) : bcnt f (l ++ m) = bcnt f l + bcnt f m := by
  unfold bcnt
  rw [List.map_append, List.sum_append]
theorem out_near {w h x y : Nat} (hx : x < w) (hy : y < h) : (near ((x : Int), (y : Int))).countP (outB w h) = (if x = 0 then 1 else 0) + (if x + 1 = w then 1 else 0) + ((if y = 0 then 1 else 0) + (if y + 1 = h then 1 else 0)) := by
  have a1 : outB w h ((x : Int), (y : Int) - 1) = decide (y = 0) := by
    unfold outB
    rw [← decide_not]
    exact decide_eq_decide.mpr (by simp only; omega)
  have a2 : outB w h ((x : Int) - 1, (y : Int)) = decide (x = 0) := by
    unfold outB
    rw [← decide_not]
    exact decide_eq_decide.mpr (by simp only; omega)
  have a3 : outB w h ((x : Int) + 1, (y : Int)) = decide (x + 1 = w) := by
    unfold outB
    rw [← decide_not]
    exact decide_eq_decide.mpr (by simp only; omega)
  have a4 : outB w h ((x : Int), (y : Int) + 1) = decide (y + 1 = h) := by
    unfold outB
    rw [← decide_not]
    exact decide_eq_decide.mpr (by simp only; omega)
  unfold near
  simp only [List.countP_cons, List.countP_nil, a1, a2, a3, a4, decide_eq_true_eq]
  omega
theorem out_row {w h y : Nat} (hy : y < h) : ∀ j, j ≤ w → bcnt (outB w h) ((List.range j).map fun x : Nat => ((x : Int), (y : Int))) = (if 1 ≤ j then 1 else 0) + (if j = w ∧ 1 ≤ j then 1 else 0) + j * ((if y = 0 then 1 else 0) + (if y + 1 = h then 1 else 0))
  | 0, _ => by simp [bcnt]
  | j + 1, hj => by
    rw [List.range_succ, List.map_append, List.map_singleton, bcnt_snoc, out_row hy j (by omega), out_near (by omega) hy, Nat.succ_mul]
    generalize j * ((if y = 0 then 1 else 0) + (if y + 1 = h then 1 else 0)) = u
    generalize ((if y = 0 then 1 else 0) + (if y + 1 = h then 1 else 0) : Nat) = v
    have e1 : ¬ (j = w ∧ 1 ≤ j) := by omega
    rw [if_neg e1, if_pos (show 1 ≤ j + 1 by omega)]
    by_cases c1 : j = 0
    · subst c1
      by_cases c2 : 0 + 1 = w
      · rw [if_pos c2, if_pos (show 0 + 1 = w ∧ 1 ≤ 0 + 1 from ⟨c2, by omega⟩)]
        simp only [if_true, if_false, Nat.zero_mul, Nat.mul_zero, Nat.mul_add, Nat.mul_one, Nat.le_refl, Nat.zero_add, Nat.add_zero, show ¬ (1 ≤ 0) by decide]
        omega
      · rw [if_neg c2, if_neg (show ¬ (0 + 1 = w ∧ 1 ≤ 0 + 1) from fun z => c2 z.1)]
        simp only [if_true, if_false, Nat.zero_mul, Nat.mul_zero, Nat.mul_add, Nat.mul_one, Nat.le_refl, Nat.zero_add, Nat.add_zero, show ¬ (1 ≤ 0) by decide]
        omega
    · by_cases c2 : j + 1 = w
      · rw [if_pos c2, if_pos (show j + 1 = w ∧ 1 ≤ j + 1 from ⟨c2, by omega⟩), if_neg c1, if_pos (show 1 ≤ j by omega)]
        omega
      · rw [if_neg c2, if_neg (show ¬ (j + 1 = w ∧ 1 ≤ j + 1) from fun z => c2 z.1), if_neg c1, if_pos (show 1 ≤ j by omega)]
        omega
theorem out_pls {w h : Nat} (hw : 1 ≤ w) : ∀ k, k ≤ h → bcnt (outB w h) (pls w k) = 2 * k + (if 1 ≤ k then w else 0) + (if k = h ∧ 1 ≤ k then w else 0)
  | 0, _ => by simp [bcnt, pls]
  | k + 1, hk => by
    have e : pls w (k + 1) = pls w k ++ row w k := by
      unfold pls
      rw [List.range_succ, List.flatMap_append]
      simp
    have r := out_row (w := w) (h := h) (y := k) (by omega) w (Nat.le_refl _)
    rw [if_pos hw, if_pos ⟨rfl, hw⟩] at r
    rw [e, bcnt_append, out_pls hw k (by omega)]
    show _ + bcnt (outB w h) ((List.range w).map fun x : Nat => ((x : Int), (k : Int))) = _
    rw [r, if_neg (show ¬ (k = h ∧ 1 ≤ k) by omega), if_pos (show 1 ≤ k + 1 by omega)]
    by_cases c1 : k = 0
    · subst c1
      by_cases c2 : 0 + 1 = h
      · rw [if_pos (show 0 + 1 = h ∧ 1 ≤ 0 + 1 from ⟨c2, by omega⟩), if_pos c2]
        simp only [if_true, if_false, Nat.zero_mul, Nat.mul_zero, Nat.mul_add, Nat.mul_one, Nat.le_refl, Nat.zero_add, Nat.add_zero, show ¬ (1 ≤ 0) by decide]
        omega
      · rw [if_neg (show ¬ (0 + 1 = h ∧ 1 ≤ 0 + 1) from fun z => c2 z.1), if_neg c2]
        simp only [if_true, if_false, Nat.zero_mul, Nat.mul_zero, Nat.mul_add, Nat.mul_one, Nat.le_refl, Nat.zero_add, Nat.add_zero, show ¬ (1 ≤ 0) by decide]
        try omega
    · by_cases c2 : k + 1 = h
      · rw [if_pos (show k + 1 = h ∧ 1 ≤ k + 1 from ⟨c2, by omega⟩), if_pos c2, if_neg c1, if_pos (show 1 ≤ k by omega)]
        simp only [if_true, if_false, Nat.zero_mul, Nat.mul_zero, Nat.mul_add, Nat.mul_one, Nat.le_refl, Nat.zero_add, Nat.add_zero, show ¬ (1 ≤ 0) by decide]
        omega
      · rw [if_neg (show ¬ (k + 1 = h ∧ 1 ≤ k + 1) from fun z => c2 z.1), if_neg c2, if_neg c1, if_pos (show 1 ≤ k by omega)]
        simp only [if_true, if_false, Nat.zero_mul, Nat.mul_zero, Nat.mul_add, Nat.mul_one, Nat.le_refl, Nat.zero_add, Nat.add_zero, show ¬ (1 ≤ 0) by decide]
        omega
theorem border_all {p : Pic} (g : Good p) {l : List Pl} (hp : l.Perm (own p (Ls p))) : border l = 2 * (hg p + wd p) := by
  have hm : ∀ r, r ∈ l ↔ ins p r := fun r => hp.mem_iff.trans mem_own
  have nd : l.Nodup := hp.nodup_iff.mpr (own_nodup_all p)
  have hq : l.Perm (pls (wd p) (hg p)) := (List.perm_ext_iff_of_nodup nd (pls_nodup _ _)).mpr fun r => (hm r).trans mem_pls_ins.symm
  have ef : (fun r => !decide (r ∈ l)) = outB (wd p) (hg p) := by
    funext r
    unfold outB
    congr 1
    exact decide_eq_decide.mpr (hm r)
  unfold border
  rw [ef]
  have := (hq.map fun q => (near q).countP (outB (wd p) (hg p))).sum_nat
  have e : bcnt (outB (wd p) (hg p)) l = bcnt (outB (wd p) (hg p)) (pls (wd p) (hg p)) := this
  rw [e, out_pls g.w1 (hg p) (Nat.le_refl _), if_pos g.h1, if_pos ⟨rfl, g.h1⟩]
  omega
theorem who_spec {p : Pic} {q : Pl} (hq : ins p q) : ∃ s, (Ls p)[who p q]? = some s ∧ q ∈ reg p s := by
  obtain ⟨s, h1, h2, h3⟩ := has_lead hq
  have hs : s ∈ Ls p := mem_leads.mpr ⟨mem_pls_ins.mpr h1, h2⟩
  obtain ⟨j, hj⟩ := List.mem_iff_getElem?.mp hs
  have hr : q ∈ reg p s := mem_reg.mpr ⟨hq, h3⟩
  exact ⟨s, by rw [who_at hj hr]; exact hj, hr⟩
/-! data of pictures and of what is found -/
def dRow (r : List Int) : PyData := .list (r.map PyData.int)
def dPic (p : Pic) : PyData := .list (p.map dRow)
noncomputable def dRg (p : Pic) (s : Pl) : PyData := .tuple [.int (cl p s), dPls (reg p s)]
noncomputable def dFound (p : Pic) : PyData := .list ((Ls p).map (dRg p))
theorem sh_row (r : List Int) : Sh 1 (dRow r) := Sh.list fun d hd => by
  obtain ⟨q, _, rfl⟩ := List.mem_map.mp hd
  exact Sh.int q
theorem sh_pic (p : Pic) : Sh 2 (dPic p) := Sh.list fun d hd => by
  obtain ⟨q, _, rfl⟩ := List.mem_map.mp hd
  exact sh_row q
theorem sh_found (p : Pic) : Sh 4 (dFound p) := Sh.list fun d hd => by
  obtain ⟨q, _, rfl⟩ := List.mem_map.mp hd
  refine Sh.tuple fun d hd => ?_
  simp only [List.mem_cons, List.not_mem_nil, or_false] at hd
  rcases hd with rfl | rfl
  · exact (Sh.int _).mono (by decide)
  · exact sh_pls _
section
variable {K : PySem.W.Frag} {H : Hp}
theorem dp_ints : ∀ (r : List Int), DpAll K H (r.map V.int) (r.map PyData.int)
  | [] => .nil
  | i :: r => .cons (.int i) (dp_ints r)
theorem dp_row {b : Addr} {r : List Int} (h : H b = some (.lst (r.map V.int))) : Dp K H (.ref b) (dRow r) := .lst (SqL.of h) (dp_ints r)
theorem dp_pic {a : Addr} {rs : List Addr} {p : Pic} (A : PicAt H a rs p) : Dp K H (.ref a) (dPic p) := by
  refine .lst (SqL.of A.o) ?_
  have h : ∀ {rs : List Addr} {p : Pic}, Paired (fun b row => H b = some (.lst ((row : List Int).map V.int))) rs p → DpAll K H (rs.map V.ref) (p.map dRow) := by
    intro rs p h
    induction h with
    | nil => exact .nil
    | cons r t ih => exact .cons (dp_row r) ih
  exact h A.r
theorem dp_found {l : Addr} {us : List (Addr × Addr)} {p : Pic} (F : FoundAt H l us p) : Dp K H (.ref l) (dFound p) := by
  refine .lst (SqL.of F.o) ?_
  have h : ∀ {us : List (Addr × Addr)} {ss : List Pl}, Paired (RgAt H p) us ss → DpAll K H (us.map fun u => V.ref u.1) (ss.map (dRg p)) := by
    intro us ss h
    induction h with
    | nil => exact .nil
    | cons r t ih =>
      obtain ⟨cs, h1, h2⟩ := r.l
      exact .cons (.tup (SqT.of r.t) (.cons (.int _) (.cons (dp_pls h1 h2) .nil))) ih
  exact h F.r
end
end Cf

set_option Elab.async false
set_option linter.all false
set_option maxRecDepth 100000
set_option maxHeartbeats 16000000
namespace Cf
open PySem PySem.Spec PyProof.Rows L2
/-! ### the law -/
theorem s_setG {te : TE} {m : Nat} {D : Ends} {σ : L2.St} {H : Hp} (Pst : V → Hp → Prop) (h : ∀ Q : VK, (∀ v H', Pst v H' → Q v H') → te σ H Q) (k : ∀ v H', Pst v H' → D.nx (σ.set m (some v)) H') : tAsg te (gName m) D σ H := h _ k
theorem s_ifN {t : TT} {t1 t2 : TS} {D : Ends} {σ : L2.St} {H : Hp} (R : Hp → Prop) (h : ∀ Q : Bool → Hp → Prop, (∀ H', R H' → Q false H') → t σ H Q) (k : ∀ H', R H' → t2 D σ H') : tIfS t t1 t2 D σ H := h _ fun H' r => iteF (k H' r)
def spLaw (K : PySem.W.Frag) (Pt : Addr) : Sp := fun vs H Q _ => ∃ a xs, vs = [.ref a] ∧ Scr K H a xs ∧ Tb Pt H ∧ ∀ H', Q (.bl true) H'
/-- all the calls of the law -/
structure Calls (P : Program) (w : World) (K : PySem.W.Frag) (mg : Str → Option Value) (base : Heap) (CP CO Pt : Addr) : Prop where
  mixed : Cal P w K mg base CX0 2 "_law_mixed" ["_law_script", "_law_k"] (spMixed K)
  great : Cal P w K mg base CX0 3 "_law_great" ["_law_script"] (spGreat K)
  picture : Cal P w K mg base CX0 3 "_law_picture" ["_law_script", "_law_at", "_law_most"] (spPicture K)
  copied : Cal P w K mg base CX0 1 "_law_copied" ["_law_picture_here"] spCopied
  regions : Cal P w K mg base (L2.CX P w) 6 "regions_of" ["picture"] (spRegs K CP Pt)
  region : Cal P w K mg base (L2.CX P w) 6 "region_at" ["picture", "x", "y"] (spRegAt K CP CO Pt)
  isreg : Cal P w K mg base CX0 3 "_law_is_region" ["_law_picture_here", "_law_region"] (spIsRegion K)
  owners : Cal P w K mg base CX0 1 "_law_owners" ["_law_found"] spOwners
  parted : Cal P w K mg base CX0 1 "_law_parted" ["_law_picture_here", "_law_owners_here"] spParted
  rises : Cal P w K mg base CX0 1 "_law_rises" ["_law_places"] spRises
  borders : Cal P w K mg base CX0 2 "_law_borders_right" ["_law_owners_here", "_law_found"] spBordersRight
  border : Cal P w K mg base CX0 1 "border_of" ["places"] (spBorder K)
  refused : Cal P w K mg base CX0 8 "_law_refused" ["_law_picture_here", "_law_number"] (spRefused K)
theorem own_le {p : Pic} (g : Good p) : (own p (Ls p)).length ≤ 576 := by
  rw [own_len]
  exact g.area
/-- behind i appends of None -/
structure App (HB : Hp) (Pt : Addr) (p : Pic) (l : Addr) (us : List (Addr × Addr)) (Kl : Addr) (ks : List (Addr × Addr)) (i : Nat) (H : Hp) : Prop where
  x : Xt HB H
  t : Tb Pt H
  k : FoundAt H Kl ks p
  o : H l = some (.lst (us.map fun u => V.ref u.1))
  e : ∀ (j : Nat) (u : Addr × Addr) (s : Pl), us[j]? = some u → (Ls p)[j]? = some s → H u.1 = some (.tup [.int (cl p s), .ref u.2]) ∧ ∃ cs : List Addr, cs.length = (reg p s).length ∧ H u.2 = some (.lst (cs.map V.ref ++ if j < i then [.non] else []))
section
variable {P : Program} {w : World} {K : PySem.W.Frag} {mg : Str → Option Value} {base : Heap} {CP CO CF S a0 a1 a2 a3 c Pt : Addr}
theorem fnOk_of {x : Str} {st : Stmt} {N ps : List Str} {k : Nat} {sp : Sp} {f0 : Addr} {fd0 : FuncData} (F : FnP K x st f0 fd0) (Sc : FnScope N ps (defScope st)) (len : ∀ vs H Q E, sp vs H Q E → vs.length = ps.length)
    (body : ∀ (f : Addr) (cdv : Value) (A : Around) (outer : List Env) (s : Shared) (H : Hp) (vs : List V) (Q : VK) (E : XK), Room k (A.deeper (envOfC x (defScope st) s.heap.objs.size f cdv)) → sp vs H Q E →
      ∃ t, PSs (cxOf CX0 P w K mg base N x (defScope st) f cdv A outer s H E).nox (defBody st) t ∧ t { nx := fun _ H' => Q .non H', rt := Q } (start N vs) H) :
    FnOk P w K mg base CX0 (k + 1) f0 fd0 ps sp := by
  refine F.ok Sc len fun cdv A outer s H vs Q E hr h => ?_
  obtain ⟨t, h1, h2⟩ := body f0 cdv A outer s H vs Q E hr h
  exact ⟨t, h1.nox, h2⟩
theorem ok_law {f0 : Addr} {fd0 : FuncData} (F0 : FnP K "law" s_law f0 fd0) (T : Tx K mg CP CO CF S a0 a1 a2 a3) (C : Calls P w K mg base CP CO Pt) : FnOk P w K mg base CX0 9 f0 fd0 ["_law_script"] (spLaw K Pt) := by
  obtain ⟨c_l_mixed, c_l_great, c_l_picture, c_l_copied, c_regions_of, c_region_at, c_l_is_region, c_l_owners, c_l_parted, c_l_rises, c_l_borders_right, c_border_of, c_l_refused⟩ := C
  refine fnOk_of F0 sc_law (fun vs H Q E h => ?_) (fun f cdv A outer s H vs Q E hr h => ?_)
  · obtain ⟨a, xs, rfl, _⟩ := h
    rfl
  · obtain ⟨a, xs, rfl, hs, tb, k⟩ := h
    refine ⟨_, (pss_cons (ps_set (i := 1) sc_law.nd rfl (by first | exact Or.inl rfl | exact Or.inr rfl) (pe_ifExp (pt_cmpR op_eq (pe_op op_mod (pe_cal c_l_mixed hr (by decide) (by rfl) (pa_cons (pv 0) (pa_cons pe_int pa_nil))) pe_int) pe_int (nomark _)) (pe_cal c_l_great hr (by decide) (by rfl) (pa_cons (pv 0) pa_nil)) (pe_cal c_l_picture hr (by decide) (by rfl) (pa_cons (pv 0) (pa_cons pe_int (pa_cons pe_int pa_nil))))))
      (pss_cons (ps_set (i := 2) sc_law.nd rfl (by first | exact Or.inl rfl | exact Or.inr rfl) (pe_cal c_l_copied hr (by decide) (by rfl) (pa_cons (pv 1) pa_nil)))
      (pss_cons (ps_set (i := 3) sc_law.nd rfl (by first | exact Or.inl rfl | exact Or.inr rfl) (pe_calX c_regions_of hr (by decide) (by rfl) passL (pa_cons (pv 2) pa_nil)))
      (pss_cons (ps_if (PW.pt (pw_or (pt_not (pt_val (pe_callB (isiK (K := K) rfl) (by rfl) T.isinstance (by decide +kernel) (pa_cons (pv 3) (pa_cons (pe_bltn (v := .ty "list") (by rfl) T.list (by decide +kernel) rfl) pa_nil))))) (pw_or1 (pt_not (pt_val (pe_callB (allK (K := K) rfl rfl) (by rfl) T.all (by decide +kernel) (pa_cons (pe_lc (own := [("_law_region", 4)]) (g := gName 4) (tt := tYes) rfl sc_law.nd (pi_list (pv 3)) (blkOk_by (N := N_law) (sc := defScope s_law) (by decide +kernel)) (fun _ _ _ _ _ => (pg_name (i := 4) sc_law.nd rfl (by first | exact Or.inl rfl | exact Or.inr rfl))) (fun _ _ _ _ _ => pts_nil) (fun _ _ _ _ _ => (pe_cal c_l_is_region hr (by decide) (by rfl) (pa_cons (pv 1) (pa_cons (pv 4) pa_nil))))) pa_nil))))))) (pss_one (ps_ret pe_bl)) pss_nil)
      (pss_cons (ps_set (i := 5) sc_law.nd rfl (by first | exact Or.inl rfl | exact Or.inr rfl) (pe_cal c_l_owners hr (by decide) (by rfl) (pa_cons (pv 3) pa_nil)))
      (pss_cons (ps_if (PW.pt (pw_or (pt_not (pt_val (pe_cal c_l_parted hr (by decide) (by rfl) (pa_cons (pv 1) (pa_cons (pv 5) pa_nil))))) (pw_or1 (pt_not (pt_val (pe_cal c_l_rises hr (by decide) (by rfl) (pa_cons (pe_lc (own := [("_law_region", 4)]) (g := gName 4) (tt := tYes) rfl sc_law.nd (pi_list (pv 3)) (blkOk_by (N := N_law) (sc := defScope s_law) (by decide +kernel)) (fun _ _ _ _ _ => (pg_name (i := 4) sc_law.nd rfl (by first | exact Or.inl rfl | exact Or.inr rfl))) (fun _ _ _ _ _ => pts_nil) (fun _ _ _ _ _ => (pe_ix (ixL (K := K) rfl) (pe_ix (ixT (K := K) rfl) (pv 4) pe_int (fun _ _ => rfl)) pe_int (fun _ _ => rfl)))) pa_nil))))))) (pss_one (ps_ret pe_bl)) pss_nil)
      (pss_cons (ps_if (pt_not (pt_val (pe_cal c_l_borders_right hr (by decide) (by rfl) (pa_cons (pv 5) (pa_cons (pv 3) pa_nil))))) (pss_one (ps_ret pe_bl)) pss_nil)
      (pss_cons (ps_set (i := 6) sc_law.nd rfl (by first | exact Or.inl rfl | exact Or.inr rfl) (pe_callB (cr_sortD rfl hr.units) (by rfl) T.sorted (by decide +kernel) (pa_cons (pv 5) pa_nil)))
      (pss_cons (ps_if (PW.pt (pw_or (pt_cmpR op_ne (pe_cal c_border_of hr (by decide) (by rfl) (pa_cons (pv 6) pa_nil)) (pe_op op_mulS pe_int (pe_op op_add (pe_callB (lenK (K := K) rfl) (by rfl) T.len PySem.boot_len (pa_cons (pv 1) pa_nil)) (pe_callB (lenK (K := K) rfl) (by rfl) T.len PySem.boot_len (pa_cons (pe_ix (ixL (K := K) rfl) (pv 1) pe_int (fun _ _ => rfl)) pa_nil)))) (nomark _)) (pw_or (pt_cmpR op_ne (pe_cal c_border_of hr (by decide) (by rfl) (pa_cons (pe_lst pa_nil) pa_nil)) pe_int (nomark _)) (pw_or1 (pt_cmpR (neK (K := K) rfl hr.units) (pv 6) (pe_callB (cr_sortD rfl hr.units) (by rfl) T.sorted (by decide +kernel) (pa_cons (pv 5) pa_nil)) (nomark _)))))) (pss_one (ps_ret pe_bl)) pss_nil)
      (pss_cons (ps_setLc (i := 7) (own := [("_law_cell_here", 8), ("_law_places", 9)]) (g := gTup K 2 (gCons (gName 8) (gCons (gName 9) gNil))) (tt := tYes) rfl sc_law.nd rfl rfl (sw_true rfl rfl rfl (by decide +kernel)) (pi_list (pv 3)) (blkOk_by (N := N_law) (sc := defScope s_law) (by decide +kernel)) (fun _ _ _ _ _ => (ptupK (K := K) rfl rfl (pgs_cons (pg_name (i := 8) sc_law.nd rfl (by first | exact Or.inl rfl | exact Or.inr rfl)) (pgs_cons (pg_name (i := 9) sc_law.nd rfl (by first | exact Or.inl rfl | exact Or.inr rfl)) pgs_nil)))) (fun _ _ _ _ _ => pts_nil) (fun _ _ _ _ _ => (pe_tup (pa_cons (pv 8) (pa_cons (pe_callTy (lstK (K := K) rfl) (by rfl) T.list (by decide +kernel) (pa_cons (pv 9) pa_nil)) pa_nil)))))
      (pss_cons (ps_for PassesOwn.never rfl (pi_range1 (by rfl) T.range (pa_cons pe_int pa_nil)) (pg_name (i := 10) sc_law.nd rfl (by first | exact Or.inl rfl | exact Or.inr rfl))
      (pss_cons (ps_set (i := 11) sc_law.nd rfl (by first | exact Or.inl rfl | exact Or.inr rfl) (pe_cal c_l_mixed hr (by decide) (by rfl) (pa_cons (pv 0) (pa_cons (pe_op op_add pe_int (pv 10)) pa_nil))))
      (pss_cons (ps_set (i := 12) sc_law.nd rfl (by first | exact Or.inl rfl | exact Or.inr rfl) (pe_ix (ixL (K := K) rfl) (pe_lst (pa_cons (pe_tup (pa_cons (pe_op op_mod (pv 11) (pe_callB (lenK (K := K) rfl) (by rfl) T.len PySem.boot_len (pa_cons (pe_ix (ixL (K := K) rfl) (pv 1) pe_int (fun _ _ => rfl)) pa_nil))) (pa_cons (pe_op op_mod (pe_op op_fdiv (pv 11) pe_int) (pe_callB (lenK (K := K) rfl) (by rfl) T.len PySem.boot_len (pa_cons (pv 1) pa_nil))) pa_nil))) (pa_cons (pe_tup (pa_cons pe_int (pa_cons pe_int pa_nil))) pa_nil))) (pe_callTy call_int1 (by rfl) T.int (by decide +kernel) (pa_cons (pe_cmpR op_eq (pe_op op_mod (pe_op op_fdiv (pv 11) pe_int) pe_int) pe_int (nomark _)) pa_nil)) (fun _ _ => rfl)))
      (pss_one (ps_for PassesOwn.never rfl (pi_range1 (by rfl) T.range (pa_cons pe_int pa_nil)) (pg_name (i := 13) sc_law.nd rfl (by first | exact Or.inl rfl | exact Or.inr rfl))
      (pss_cons (ps_set (i := 14) sc_law.nd rfl (by first | exact Or.inl rfl | exact Or.inr rfl) (pe_calX c_region_at hr (by decide) (by rfl) passL (pa_cons (pv 2) (pa_cons (pe_ix (ixT (K := K) rfl) (pv 12) pe_int (fun _ _ => rfl)) (pa_cons (pe_ix (ixT (K := K) rfl) (pv 12) pe_int (fun _ _ => rfl)) pa_nil)))))
      (pss_cons (ps_if (PW.pt (pw_or (pt_not (pt_val (pe_callB (isiK (K := K) rfl) (by rfl) T.isinstance (by decide +kernel) (pa_cons (pv 14) (pa_cons (pe_bltn (v := .ty "list") (by rfl) T.list (by decide +kernel) rfl) pa_nil))))) (pw_or1 (pt_cmpR (neK (K := K) rfl hr.units) (pv 14) (pe_ix (ixT (K := K) rfl) (pe_ix (ixL (K := K) rfl) (pv 7) (pe_dget (hu_of hr) (pv 5) (pv 12) (fun _ _ => rfl)) (fun _ _ => rfl)) pe_int (fun _ _ => rfl)) (nomark _))))) (pss_one (ps_ret pe_bl)) pss_nil)
      (pss_one (ps_expr (pe_bm PySem.F.plainAttrs_list PySem.F.slot_list_append PySem.F.type_list_append mt_append (pv 14) (pa_cons pe_non pa_nil)))))))))))
      (pss_cons (ps_for PassesOwn.never rfl (pi_list (pv 3)) (ptupK (K := K) rfl rfl (pgs_cons (pg_name (i := 8) sc_law.nd rfl (by first | exact Or.inl rfl | exact Or.inr rfl)) (pgs_cons (pg_name (i := 9) sc_law.nd rfl (by first | exact Or.inl rfl | exact Or.inr rfl)) pgs_nil)))
      (pss_one (ps_expr (pe_bm PySem.F.plainAttrs_list PySem.F.slot_list_append PySem.F.type_list_append mt_append (pv 9) (pa_cons pe_non pa_nil)))))
      (pss_cons (ps_if (pt_cmpR (neK (K := K) rfl hr.units) (pe_lc (own := [("_law_cell_here", 8), ("_law_places", 9)]) (g := gTup K 2 (gCons (gName 8) (gCons (gName 9) gNil))) (tt := tYes) rfl sc_law.nd (pi_list (pv 3)) (blkOk_by (N := N_law) (sc := defScope s_law) (by decide +kernel)) (fun _ _ _ _ _ => (ptupK (K := K) rfl rfl (pgs_cons (pg_name (i := 8) sc_law.nd rfl (by first | exact Or.inl rfl | exact Or.inr rfl)) (pgs_cons (pg_name (i := 9) sc_law.nd rfl (by first | exact Or.inl rfl | exact Or.inr rfl)) pgs_nil)))) (fun _ _ _ _ _ => pts_nil) (fun _ _ _ _ _ => (pe_callB (lenK (K := K) rfl) (by rfl) T.len PySem.boot_len (pa_cons (pv 9) pa_nil)))) (pe_lc (own := [("_law_cell_here", 8), ("_law_places", 9)]) (g := gTup K 2 (gCons (gName 8) (gCons (gName 9) gNil))) (tt := tYes) rfl sc_law.nd (pi_list (pv 7)) (blkOk_by (N := N_law) (sc := defScope s_law) (by decide +kernel)) (fun _ _ _ _ _ => (ptupK (K := K) rfl rfl (pgs_cons (pg_name (i := 8) sc_law.nd rfl (by first | exact Or.inl rfl | exact Or.inr rfl)) (pgs_cons (pg_name (i := 9) sc_law.nd rfl (by first | exact Or.inl rfl | exact Or.inr rfl)) pgs_nil)))) (fun _ _ _ _ _ => pts_nil) (fun _ _ _ _ _ => (pe_op op_add (pe_callB (lenK (K := K) rfl) (by rfl) T.len PySem.boot_len (pa_cons (pv 9) pa_nil)) pe_int))) (nomark _)) (pss_one (ps_ret pe_bl)) pss_nil)
      (pss_cons (ps_expr (pe_bm PySem.F.plainAttrs_list PySem.F.slot_list_append PySem.F.type_list_append mt_append (pv 3) (pa_cons pe_non pa_nil)))
      (pss_one (ps_ret (pe_and (pe_cmpR (eqK (K := K) rfl hr.units) (pe_calX c_regions_of hr (by decide) (by rfl) passL (pa_cons (pv 2) pa_nil)) (pv 7) (nomark _)) (pe_and (pe_cmpR (eqK (K := K) rfl hr.units) (pv 2) (pv 1) (nomark _)) (pe_one (pe_cal c_l_refused hr (by decide) (by rfl) (pa_cons (pv 2) (pa_cons (pe_cal c_l_mixed hr (by decide) (by rfl) (pa_cons (pv 0) (pa_cons pe_int pa_nil))) pa_nil)))))))))))))))))))))), ?_⟩
    -- the picture
    refine go_seq (s_setG (fun v H' => ∃ l rs p, v = .ref l ∧ Same H H' ∧ PicAt H' l rs p ∧ Good p) (fun Q k => ?_) ?_)
    · refine ⟨_, rfl, a, xs, 13, rfl, hs, by decide, by decide, fun n n0 n1 => ?_⟩
      refine ⟨_, _, rfl, rfl, (by decide : (0 : Int) < 16), rfl, _, rfl, ?_⟩
      by_cases c : V.int (n % 16) = V.int 5
      · rw [decide_eq_true c]
        refine iteT ⟨_, rfl, a, xs, rfl, hs, fun H' l rs p e A g => k _ _ ⟨l, rs, p, rfl, e, A, g⟩⟩
      · rw [decide_eq_false c]
        refine iteF ⟨_, rfl, a, xs, rfl, hs, fun H' l rs p e A g => k _ _ ⟨l, rs, p, rfl, e, A, g⟩⟩
    rintro _ H1 ⟨pa, prs, p, rfl, e1, A1, g⟩
    dsimp only
    -- the copy
    refine ⟨_, rfl, pa, prs, p, rfl, A1, g, fun H2 ha hrs e2 A2 => ?_⟩
    have e02 : Same H H2 := fun b o h => e2 _ _ (e1 _ _ h)
    have A1 := A1.xt (Same.xt e2)
    have hs2 := hs.xt (Same.xt e02)
    have hs20 := hs2
    have tb2 := tb.same e02
    clear e1 e2 e02 hs tb
    -- the regions
    refine ⟨_, rfl, .inr ⟨ha, hrs, p, rfl, tb2, A2, g, fun H3 l us x3 tb3 fl hl hF nd hu => ?_⟩⟩
    have F3 : FoundAt H3 l us p := ⟨hl, hF⟩
    have P3 := A1.xt x3
    have G3 := A2.xt x3
    have hs3 := hs2.xt x3
    have ul := F3.len
    have ll := ls_len g
    dsimp only [gName]
    refine go_seq (s_ifN (fun H' => Same H3 H') (fun Q k => ?_) ?_)
    · refine ⟨_, rfl, _, _, _, _, true, rfl, .ty _, .base (.lst F3.o), kit_ty (by decide +kernel), true, rfl, iteF ?_⟩
      refine ⟨_, rfl, l, rfl, ⟨_, SqL.of F3.o⟩, fun Dl hD => ?_⟩
      refine lc_list (K := K) (xs := us.map fun u => V.ref u.1) (fun i H' => Same H3 H' ∧ H' Dl = some (.lst ((List.replicate i true).map V.bl))) ⟨Same.new hD, upd_same⟩
        (fun i H' _ h => SqL.of (h.1 _ _ F3.o)) ?_ ?_
      · rintro i x H' hi ⟨e, hd⟩
        rw [List.getElem?_map] at hi
        obtain ⟨u, hu1, rfl⟩ := Option.map_eq_some_iff.mp hi
        obtain ⟨s0, hs0, R⟩ := paired_at F3.r hu1
        have him := (List.getElem?_eq_some_iff.mp hu1).1
        obtain ⟨z1, z2⟩ := ls_mem (List.mem_of_getElem? hs0)
        refine ⟨rfl, tyes_go ?_⟩
        refine ⟨_, rfl, _, rfl, pa, prs, p, u, s0, rfl, P3.xt (Same.xt e), g, z1, z2, R.xt (Same.xt e), fun H4 e4 => ?_⟩
        refine ⟨_, e4 _ _ hd, ?_, Same.mut (fun b o h => e4 _ _ (e _ _ h)) hD, ?_⟩
        · rw [List.length_map, List.length_replicate]
          exact small1000 (by omega)
        · rw [upd_same, List.replicate_succ', List.map_append]
          rfl
      · rintro H' ⟨e, hd⟩
        refine ⟨Dl, _, rfl, SqL.of hd, true, ?_, ?_⟩
        · rw [List.length_map] at *
          simp
        · exact k H' e
    intro H4 e4
    dsimp only
    have F4 := F3.xt (Same.xt e4)
    -- the owners
    refine ⟨_, rfl, l, us, p, rfl, F4, g, fun H5 d e5 fd5 hd => ?_⟩
    have e35 : Same H3 H5 := fun b o h => e5 _ _ (e4 _ _ h)
    have F5 := F3.xt (Same.xt e35)
    have P5 := P3.xt (Same.xt e35)
    dsimp only [gName]
    refine go_seq (s_ifN (fun H' => Same H5 H') (fun Q k => ?_) ?_)
    · refine ⟨_, rfl, _, rfl, pa, prs, p, d, rfl, P5, g, hd, fun H6 e6 => ?_⟩
      refine ⟨true, rfl, iteF ?_⟩
      have F6 := F5.xt (Same.xt e6)
      refine ⟨_, rfl, l, rfl, ⟨_, SqL.of F6.o⟩, fun Dl hD => ?_⟩
      refine lc_list (K := K) (xs := us.map fun u => V.ref u.1) (fun i H' => Same H6 H' ∧ ∃ cs : List Addr, H' Dl = some (.lst (cs.map V.ref)) ∧ PlsAt H' cs ((Ls p).take i)) ⟨Same.new hD, [], upd_same, .nil⟩
        (fun i H' _ h => SqL.of (h.1 _ _ F6.o)) ?_ ?_
      · rintro i x H' hi ⟨e, cs, hcs, hps⟩
        rw [List.getElem?_map] at hi
        obtain ⟨u, hu1, rfl⟩ := Option.map_eq_some_iff.mp hi
        obtain ⟨s0, hs0, R⟩ := paired_at F6.r hu1
        have him := (List.getElem?_eq_some_iff.mp hu1).1
        obtain ⟨z1, z2⟩ := ls_mem (List.mem_of_getElem? hs0)
        obtain ⟨r, hr0⟩ := reg_head z1 z2
        obtain ⟨rc, hl1, hp1⟩ := R.l
        rw [hr0] at hp1
        obtain ⟨b0, rc', rfl, hb0⟩ : ∃ b0 rc', rc = b0 :: rc' ∧ PlAt H6 b0 s0 := by
          cases hp1
          exact ⟨_, _, rfl, by assumption⟩
        refine ⟨rfl, tyes_go ?_⟩
        refine ⟨_, rfl, _, _, _, _, rfl, rfl, SqT.of (e _ _ R.t), rfl, _, _, _, _, rfl, rfl, SqL.of (e _ _ hl1), atI_nat (j := 0) rfl, ?_⟩
        have nD : ∀ b ys, H' b = some (.tup ys) → b ≠ Dl := fun b ys hb z => by
          rw [z, hcs] at hb
          cases hb
        refine ⟨cs.map V.ref, hcs, ?_, Same.mut e hD, cs ++ [b0], ?_, ?_⟩
        · rw [List.length_map, Paired.length hps, List.length_take]
          exact small1000 (by omega)
        · rw [upd_same, List.map_append]
          rfl
        · rw [take_snoc hs0]
          refine paired_app (PlsAt.upd hps nD) (.cons ?_ .nil)
          have hb0' : H' b0 = some (.tup [.int s0.1, .int s0.2]) := e _ _ hb0
          show upd _ _ _ b0 = _
          rw [upd_ne (nD _ _ hb0')]
          exact hb0'
      · rintro H' ⟨e, cs, hcs, hps⟩
        rw [List.length_map, ul, List.take_length] at hps
        refine ⟨Dl, cs, Ls p, rfl, hcs, hps, leads_bf p, by omega, fun H7 e7 => ⟨true, rfl, ?_⟩⟩
        exact k H7 fun b o h => e7 _ _ (e _ _ (e6 _ _ h))
    intro H6 e6
    refine go_next ?_
    dsimp only
    have e36 : Same H3 H6 := fun b o h => e6 _ _ (e35 _ _ h)
    have hd6 := e6 _ _ hd
    -- the borders
    refine go_seq (s_ifN (fun H' => Same H6 H') (fun Q k => ?_) ?_)
    · exact ⟨_, rfl, _, rfl, l, us, p, d, rfl, F3.xt (Same.xt e36), g, hd6, fun H7 e7 => ⟨true, rfl, k H7 e7⟩⟩
    intro H7 e7
    refine go_next ?_
    dsimp only
    have e37 : Same H3 H7 := fun b o h => e7 _ _ (e36 _ _ h)
    have hd7 := e7 _ _ hd6
    have hkeys : (ownK p (Ls p)).map (·.1) = (own p (Ls p)).map kq := kvs_keys _ _
    -- the whole
    refine ⟨_, rfl, d, _, own p (Ls p), rfl, hd7, hkeys, by have := own_le g; omega, fun W wc hW hwc => ?_⟩
    obtain ⟨H8, q8, e8, s8, b8⟩ := new_step (.lst (wc.map V.ref)) e37 hW
    rw [q8]
    have hwc8 := PlsAt.same hwc s8
    have hd8 := s8 _ _ hd7
    have wlen : ((own p (Ls p)).mergeSort colLe).length ≤ 576 := by
      rw [List.length_mergeSort]
      exact own_le g
    have bord : border ((own p (Ls p)).mergeSort colLe) = 2 * (hg p + wd p) := border_all g (List.mergeSort_perm _ _)
    have P8 := P3.xt (Same.xt e8)
    obtain ⟨r0, row0, y1, y2, y3⟩ := P8.first g
    dsimp only [gName]
    refine go_seq (s_ifN (fun H' => Same H8 H') (fun Q k => ?_) ?_)
    · refine ⟨_, rfl, W, wc, _, rfl, b8, hwc8, by omega, fun H9 e9 => ?_⟩
      refine ⟨_, rfl, _, prs.length, rfl, .inl ⟨_, SqL.of (e9 _ _ P8.o), by rw [List.length_map]⟩, _, rfl, _, _, _, _, rfl, rfl, SqL.of (e9 _ _ P8.o), y1, _, wd p, rfl, .inl ⟨_, SqL.of (e9 _ _ y2), Int.ofNat_inj.mp y3.symm⟩, _, _, rfl, rfl, _, _, rfl, rfl, mul_l (by decide), rfl, _, rfl, ?_⟩
      have eb : V.int (border ((own p (Ls p)).mergeSort colLe) : Nat) = V.int (2 * ((prs.length : Nat) + (wd p : Nat))) := by
        rw [bord, P3.len]
        congr 1
      have eb2 : decide (V.int (border ((own p (Ls p)).mergeSort colLe) : Nat) = V.int (2 * ((prs.length : Nat) + (wd p : Nat)))) = true := decide_eq_true eb
      show (if (!decide (V.int (border ((own p (Ls p)).mergeSort colLe) : Nat) = V.int (2 * ((prs.length : Nat) + (wd p : Nat))))) = true then _ else _)
      rw [eb2]
      refine iteF ?_
      refine ⟨by show 0 ≤ sizeLine; decide, fun t10 ht10 => ?_⟩
      obtain ⟨H10, q10, e10, s10, b10⟩ := new_step (.lst []) e9 ht10
      rw [q10]
      refine ⟨t10, [], [], rfl, b10, .nil, by decide, fun H11 e11 => ?_⟩
      refine ⟨rfl, _, rfl, ?_⟩
      show (if (!decide (V.int (border [] : Nat) = V.int 0)) = true then _ else _)
      rw [decide_eq_true (show V.int (border [] : Nat) = V.int 0 from rfl)]
      refine iteF ?_
      have e811 : Same H8 H11 := fun b o h => e11 _ _ (e10 _ _ h)
      refine ⟨_, rfl, _, rfl, d, _, own p (Ls p), rfl, e811 _ _ hd8, hkeys, by have := own_le g; omega, fun W2 wc2 hW2 hwc2 => ?_⟩
      obtain ⟨H12, q12, e12, s12, b12⟩ := new_step (.lst (wc2.map V.ref)) e811 hW2
      rw [q12]
      refine ⟨dPls ((own p (Ls p)).mergeSort colLe), dPls ((own p (Ls p)).mergeSort colLe), dp_pls (e12 _ _ b8) (PlsAt.same hwc8 e12), dp_pls b12 (PlsAt.same hwc2 s12), (sh_pls _).shaped (by decide), (sh_pls _).shaped (by decide), _, rfl, ?_⟩
      rw [eqv_self (sh_pls _)]
      exact k H12 e12
    intro H9 e9
    refine go_next ?_
    dsimp only
    have e39 : Same H3 H9 := fun b o h => e9 _ _ (e8 _ _ h)
    have F9 := F3.xt (Same.xt e39)
    have hd9 := e9 _ _ hd8
    clear hd6 hd7 hd8 y1 y2 y3 r0 row0 bord wlen hwc hwc8 b8 s8 q8 hkeys F4 F5 P5 P8
    -- what is kept
    refine ⟨_, rfl, l, rfl, ⟨_, SqL.of F9.o⟩, fun Kl hK => ?_⟩
    refine lc_list (K := K) (xs := us.map fun u => V.ref u.1) (fun i H' => Same H9 H' ∧ ∃ ks : List (Addr × Addr), H' Kl = some (.lst (ks.map fun u => V.ref u.1)) ∧ Paired (RgAt H' p) ks ((Ls p).take i) ∧ ∀ u ∈ ks, H9 u.2 = none ∧ u.2 ≠ Kl) ⟨Same.new hK, [], upd_same, .nil, fun u hu => nomatch hu⟩
      (fun i H' _ h => SqL.of (h.1 _ _ F9.o)) ?_ ?_
    · rintro i x H' hi ⟨e, ks, hks, hps, hkn⟩
      rw [List.getElem?_map] at hi
      obtain ⟨u, hu1, rfl⟩ := Option.map_eq_some_iff.mp hi
      obtain ⟨s0, hs0, R⟩ := paired_at F9.r hu1
      have him := (List.getElem?_eq_some_iff.mp hu1).1
      obtain ⟨cs, hl1, hp1⟩ := R.l
      refine ⟨u.1, _, rfl, SqT.of (e _ _ R.t), rfl, _, _, rfl, _, _, rfl, rfl, rfl, tyes_go ?_⟩
      refine ⟨_, rfl, _, rfl, _, _, rfl, .inl (SqL.of (e _ _ hl1)), fun t ht => ?_⟩
      obtain ⟨H11, q11, e11, s11, b11⟩ := new_step (.lst (cs.map V.ref)) e ht
      rw [q11]
      refine ⟨by show 2 ≤ sizeLine; decide, fun q hq => ?_⟩
      obtain ⟨H12, q12, e12, s12, b12⟩ := new_step (.tup [.int (cl p s0), .ref t]) e11 hq
      rw [q12]
      have hks2 := s12 _ _ (s11 _ _ hks)
      have nD : ∀ b ys, H12 b = some (.tup ys) → b ≠ Kl := fun b ys hb z => by
        rw [z, hks2] at hb
        cases hb
      have nt : t ≠ Kl := fun z => by
        rw [z, hks] at ht
        cases ht
      refine ⟨_, hks2, ?_, Same.mut e12 hK, ks ++ [(q, t)], ?_, ?_, fun v hv => ?_⟩
      · rw [List.length_map, Paired.length hps, List.length_take]
        exact small1000 (by omega)
      · rw [upd_same, List.map_append]
        rfl
      · rw [take_snoc hs0]
        refine paired_app (paired_extM (fun v hv s r => (r.xt (Same.xt fun b o h => s12 _ _ (s11 _ _ h))).upd nD (hkn v hv).2) hps) (.cons ⟨?_, cs, ?_, ?_⟩ .nil)
        · show upd _ Kl _ q = _
          rw [upd_ne (nD _ _ b12)]
          exact b12
        · show upd _ Kl _ t = _
          rw [upd_ne nt]
          exact s12 _ _ b11
        · exact PlsAt.upd (PlsAt.same hp1 e12) nD
      · rcases List.mem_append.mp hv with hv | hv
        · exact hkn v hv
        · rw [List.mem_singleton] at hv
          subst hv
          exact ⟨Same.free e ht, nt⟩
    rintro H10 ⟨e10, ks, hks, hps, hkn⟩
    rw [List.length_map, ul, List.take_length] at hps
    have K10 : FoundAt H10 Kl ks p := ⟨hks, hps⟩
    have e310 : Same H3 H10 := fun b o h => e10 _ _ (e39 _ _ h)
    have x210 : Xt H2 H10 := x3.trans (Same.xt e310)
    have tb10 := tb3.same e310
    have hd10 := e10 _ _ hd9
    have P10 := P3.xt (Same.xt e310)
    have G10 := G3.xt (Same.xt e310)
    have hs10 := hs3.xt (Same.xt e310)
    have F10 := F3.xt (Same.xt e310)
    obtain ⟨r0, row0, y1, y2, y3⟩ := P10.first g
    have h1 := g.h1
    have w1 := g.w1
    clear e8 e9 e7 e37 e6 e36 e5 e35 e4 hs2 tb2 hs3 tb3
    dsimp only [gName]
    -- six places
    refine ⟨_, rfl, by decide, by decide, ?_⟩
    refine for_range (fun i σ' H' => ∃ v4 v8 v9 v10 v11 v12 v13 v14, σ' = [some (.ref a), some (.ref pa), some (.ref ha), some (.ref l), v4, some (.ref d), some (.ref W), some (.ref Kl), v8, v9, v10, v11, v12, v13, v14] ∧ Xt H10 H' ∧ Tb Pt H') ⟨none, none, none, none, none, none, none, none, rfl, Xt.refl _, tb10⟩ ?_ ?_
    · rintro i σ' H' hi ⟨v4, v8, v9, v10, v11, v12, v13, v14, rfl, x, tbx⟩
      have hi6 : i < 6 := hi
      rw [Int.zero_add]
      refine ⟨_, rfl, _, rfl, _, _, rfl, rfl, a, xs, _, rfl, hs10.xt x, by omega, by omega, fun n n0 n1 => ?_⟩
      dsimp only [gName]
      have Px := P10.xt x
      refine go_seq (s_setG (fun v H'' => ∃ t q, v = .ref t ∧ Same H' H'' ∧ PlAt H'' t q ∧ ins p q) (fun Q k => ?_) ?_)
      · have wl : ((row0.map V.int).length : Int) = (wd p : Int) := y3
        have ylen : prs.length = hg p := A1.len
        refine ⟨_, rfl, _, rfl, _, _, _, _, rfl, rfl, SqL.of Px.o, y1, _, wd p, rfl, .inl ⟨_, SqL.of (x.l y2), Int.ofNat_inj.mp y3.symm⟩, _, _, rfl, rfl, (by omega : (0 : Int) < (wd p : Int)), _, rfl, _, _, rfl, rfl, ⟨by decide, by decide⟩, _, rfl, _, hg p, rfl, .inl ⟨_, SqL.of Px.o, by rw [List.length_map, ylen]⟩, _, _, rfl, rfl, (by omega : (0 : Int) < (hg p : Int)), by show 2 ≤ sizeLine; decide, fun t1 ht1 => ?_⟩
        have e0 : Same H' H' := fun _ _ h => h
        obtain ⟨Ha, qa, ea, sa, ba⟩ := new_step (.tup [.int (n % (wd p : Int)), .int (n / 30 % (hg p : Int))]) e0 ht1
        have qa' : upd H' t1 (.tup [(fun i j => V.int (i % j)) n (wd p : Nat), (fun i j => V.int (i % j)) (n / 30) (hg p : Nat)]) = Ha := qa
        rw [qa']
        refine ⟨by show 2 ≤ sizeLine; decide, fun t2 ht2 => ?_⟩
        obtain ⟨Hb, qb, eb, sb, bb⟩ := new_step (.tup [.int 0, .int 0]) ea ht2
        rw [qb]
        refine ⟨by show 2 ≤ sizeLine; decide, fun t3 ht3 => ?_⟩
        obtain ⟨Hc, qc, ec, sc, bc⟩ := new_step (.lst [.ref t1, .ref t2]) eb ht3
        rw [qc]
        have i1 : ins p (n % (wd p : Int), n / 30 % (hg p : Int)) := ⟨Int.emod_nonneg _ (by omega), Int.emod_lt_of_pos _ (by omega), Int.emod_nonneg _ (by omega), Int.emod_lt_of_pos _ (by omega)⟩
        have i2 : ins p (0, 0) := ⟨by omega, by show (0 : Int) < (wd p : Int); omega, by omega, by show (0 : Int) < (hg p : Int); omega⟩
        refine ⟨_, rfl, _, _, rfl, rfl, ⟨by decide, by decide⟩, _, _, rfl, rfl, (by decide : (0 : Int) < 9), rfl, .inr ⟨_, rfl, ?_⟩⟩
        by_cases c : V.int (n / 900 % 9) = V.int 1
        · have cc : decide (V.int (n / 900 % 9) = V.int 1) = true := decide_eq_true c
          refine ⟨t3, [.ref t1, .ref t2], _, .ref t2, rfl, rfl, SqL.of bc, ?_, k _ _ ⟨t2, (0, 0), rfl, ec, sc _ _ bb, i2⟩⟩
          show atI [V.ref t1, .ref t2] (if decide (V.int (n / 900 % 9) = V.int 1) = true then 1 else 0) = _
          rw [cc]
          exact atI_nat (j := 1) rfl
        · have cc : decide (V.int (n / 900 % 9) = V.int 1) = false := decide_eq_false c
          refine ⟨t3, [.ref t1, .ref t2], _, .ref t1, rfl, rfl, SqL.of bc, ?_, k _ _ ⟨t1, _, rfl, ec, sc _ _ (sb _ _ ba), i1⟩⟩
          show atI [V.ref t1, .ref t2] (if decide (V.int (n / 900 % 9) = V.int 1) = true then 1 else 0) = _
          rw [cc]
          exact atI_nat (j := 0) rfl
      rintro _ Hd ⟨tq, q, rfl, ed, hq, hqi⟩
      have xd : Xt H10 Hd := x.trans (Same.xt ed)
      have tbd := tbx.same ed
      obtain ⟨s0, hs0, hqs⟩ := who_spec hqi
      obtain ⟨hsi, hsl⟩ := ls_mem (List.mem_of_getElem? hs0)
      have hre : reg p q = reg p s0 := reg_eq hsi (mem_reg.mp hqs).2
      dsimp only
      refine ⟨_, rfl, by decide, by decide, ?_⟩
      refine for_range (fun j σ' H' => ∃ v13 v14, σ' = [some (.ref a), some (.ref pa), some (.ref ha), some (.ref l), v4, some (.ref d), some (.ref W), some (.ref Kl), v8, v9, some (.int (i : Nat)), some (.int n), some (.ref tq), v13, v14] ∧ Xt H10 H' ∧ Tb Pt H' ∧ PlAt H' tq q) ⟨v13, v14, rfl, xd, tbd, hq⟩ ?_ ?_
      · rintro j σ3 He hj ⟨v13, v14, rfl, xe, tbe, hqe⟩
        refine ⟨_, rfl, _, rfl, _, _, _, _, rfl, rfl, SqT.of hqe, rfl, _, rfl, _, _, _, _, rfl, rfl, SqT.of hqe, rfl, .inr (.inr ⟨ha, hrs, p, q.1, q.2, rfl, tbe, G10.xt xe, g, hqi, fun Hf tl cs xf tf ff lf pf => ?_⟩)⟩
        have xf10 := xe.trans xf
        have Kf := K10.xt xf10
        obtain ⟨uk, hk1, Rk⟩ := Kf.at hs0
        obtain ⟨csk, hlk, hpk⟩ := Rk.l
        have hqf : PlAt Hf tq q := xf.t hqe
        have hdf : Hf d = some (.dT (ownK p (Ls p))) := xf10.d hd10
        have pf' : PlsAt Hf cs (reg p s0) := by
          rw [← hre]
          exact pf
        have hget := rd_get (f := fun q => V.int (who p q : Nat)) (.inl hdf) hqf
        rw [if_pos (mem_own.mpr hqi)] at hget
        refine ⟨_, rfl, _, _, _, _, true, rfl, .ty _, .base (.lst lf), kit_ty (by decide +kernel), true, rfl, iteF ?_⟩
        refine ⟨_, rfl, _, rfl, _, rfl, _, rfl, d, _, rfl, hget, Kl, _, _, _, rfl, rfl, SqL.of Kf.o, hk1, _, _, _, _, rfl, rfl, SqT.of Rk.t, rfl, dPls (reg p s0), dPls (reg p s0), dp_pls lf pf', dp_pls hlk hpk, (sh_pls _).shaped (by decide), (sh_pls _).shaped (by decide), _, rfl, ?_⟩
        rw [eqv_self (sh_pls _)]
        refine iteF ?_
        have rl := reg_len p s0
        have area := g.area
        refine ⟨_, rfl, .inl ⟨rfl, _, SqL.of lf⟩, tl, _, _, rfl, rfl, lf, ?_, ?_⟩
        · rw [List.length_map, Paired.length pf']
          exact small1000 (by omega)
        · refine ⟨_, _, rfl, xf10.put (Fr.back xe ff), tf.l lf, ?_⟩
          show upd Hf tl _ tq = _
          rw [upd_ne fun z => by have hqf' : Hf tq = some (.tup [.int q.1, .int q.2]) := hqf; rw [z, lf] at hqf'; cases hqf']
          exact hqf
      · rintro σ3 He ⟨v13, v14, rfl, xe, tbe, hqe⟩
        exact ⟨_, _, _, _, _, _, _, _, rfl, xe, tbe⟩
    rintro σ11 H11 ⟨v4, v8, v9, v10, v11, v12, v13, v14, rfl, x11, tb11⟩
    dsimp only
    have x211 : Xt H2 H11 := x210.trans x11
    have K11 := K10.xt x11
    have F11 := F10.xt x11
    have P11 := P10.xt x11
    have G11 := G10.xt x11
    have hs11 := hs10.xt x11
    have nlK : l ≠ Kl := fun z => by
      have := F9.o
      rw [z, hK] at this
      cases this
    have nuK : ∀ u ∈ us, u.2 ≠ Kl ∧ ∀ v ∈ ks, v.2 ≠ u.2 := fun u hu => by
      obtain ⟨s0, _, R⟩ := paired_mem F9.r hu
      obtain ⟨cs, h2, _⟩ := R.l
      refine ⟨fun z => (by rw [z, hK] at h2; cases h2), fun v hv z => ?_⟩
      rw [← z, (hkn v hv).1] at h2
      cases h2
    have I0 : App H2 Pt p l us Kl ks 0 H11 := ⟨x211, tb11, K11, F11.o, fun j u s0 hj hs0 => by
      obtain ⟨s1, z1, R⟩ := paired_at F11.r hj
      rw [z1] at hs0
      obtain rfl := Option.some.inj hs0
      obtain ⟨cs, z2, z3⟩ := R.l
      exact ⟨R.t, cs, Paired.length z3, by rw [if_neg (Nat.not_lt_zero _), List.append_nil]; exact z2⟩⟩
    -- None behind each region handed out
    refine ⟨_, rfl, l, rfl, ⟨_, SqL.of F11.o⟩, ?_⟩
    refine for_list (xs := us.map fun u => V.ref u.1) (fun i σ' H' => ∃ v8 v9, σ' = [some (.ref a), some (.ref pa), some (.ref ha), some (.ref l), v4, some (.ref d), some (.ref W), some (.ref Kl), v8, v9, v10, v11, v12, v13, v14] ∧ App H2 Pt p l us Kl ks i H') ⟨v8, v9, rfl, I0⟩
      (fun i σ' H' _ h => by obtain ⟨_, _, _, I⟩ := h; exact SqL.of I.o) ?_ ?_
    · rintro i x σ3 H12 hi ⟨v8, v9, rfl, I⟩
      rw [List.getElem?_map] at hi
      obtain ⟨u, hu1, rfl⟩ := Option.map_eq_some_iff.mp hi
      have hum := List.mem_of_getElem? hu1
      obtain ⟨s0, hs0, _⟩ := paired_at F11.r hu1
      obtain ⟨ht, cs, hcl, hcs⟩ := I.e i u s0 hu1 hs0
      rw [if_neg (Nat.lt_irrefl _), List.append_nil] at hcs
      have rl := reg_len p s0
      have area := g.area
      refine ⟨u.1, _, rfl, SqT.of ht, rfl, _, _, rfl, _, _, rfl, rfl, ?_⟩
      refine ⟨_, rfl, .inl ⟨rfl, _, SqL.of hcs⟩, u.2, _, _, rfl, rfl, hcs, ?_, ?_⟩
      · rw [List.length_map, hcl]
        exact small1000 (by omega)
      · refine ⟨_, _, rfl, I.x.put (hu u hum).1, I.t.l hcs, ⟨by rw [upd_ne (Ne.symm (nuK u hum).1)]; exact I.k.o, paired_extM (fun v hv s r => r.upd (fun b ys hb z => by rw [z, hcs] at hb; cases hb) ((nuK u hum).2 v hv)) I.k.r⟩, by rw [upd_ne (Ne.symm (hu u hum).2)]; exact I.o, fun j v s1 hj hs1 => ?_⟩
        obtain ⟨z1, cs1, z2, z3⟩ := I.e j v s1 hj hs1
        refine ⟨by rw [upd_ne fun z => by rw [z, hcs] at z1; cases z1]; exact z1, ?_⟩
        by_cases c : j = i
        · subst c
          rw [hu1] at hj
          obtain rfl := Option.some.inj hj
          rw [hs0] at hs1
          obtain rfl := Option.some.inj hs1
          exact ⟨cs, hcl, by rw [upd_same, if_pos (Nat.lt_succ_self _)]⟩
        · refine ⟨cs1, z2, ?_⟩
          have nv : v.2 ≠ u.2 := fun z => by
            have y1 : (us.map (·.2))[j]? = some v.2 := by rw [List.getElem?_map, hj]; rfl
            have y2 : (us.map (·.2))[i]? = some u.2 := by rw [List.getElem?_map, hu1]; rfl
            obtain ⟨q1, q2⟩ := List.getElem?_eq_some_iff.mp y1
            obtain ⟨q3, q4⟩ := List.getElem?_eq_some_iff.mp y2
            rcases Nat.lt_or_ge j i with hlt | hge
            · exact List.pairwise_iff_getElem.mp nd j i q1 q3 hlt (by rw [q2, q4, z])
            · exact List.pairwise_iff_getElem.mp nd i j q3 q1 (by omega) (by rw [q2, q4, z])
          rw [upd_ne nv, z3]
          by_cases c2 : j < i
          · rw [if_pos c2, if_pos (Nat.lt_succ_of_lt c2)]
          · rw [if_neg c2, if_neg (by omega)]
    rintro σ12 H12 ⟨v8', v9', rfl, I⟩
    rw [List.length_map] at I
    have ue : ∀ (j : Nat) (u : Addr × Addr) (s0 : Pl), us[j]? = some u → (Ls p)[j]? = some s0 → H12 u.1 = some (.tup [.int (cl p s0), .ref u.2]) ∧ ∃ xs, H12 u.2 = some (.lst xs) ∧ xs.length = (reg p s0).length + 1 := fun j u s0 hj hs0 => by
      obtain ⟨z1, cs, z2, z3⟩ := I.e j u s0 hj hs0
      rw [if_pos (List.getElem?_eq_some_iff.mp hj).1] at z3
      exact ⟨z1, _, z3, by rw [List.length_append, List.length_map, z2]; rfl⟩
    dsimp only
    -- the lengths
    refine go_seq (s_ifN (fun H' => Same H12 H') (fun Q k => ?_) ?_)
    · refine ⟨_, rfl, l, rfl, ⟨_, SqL.of I.o⟩, fun D1 hD1 => ?_⟩
      refine lc_list (K := K) (xs := us.map fun u => V.ref u.1) (fun i H' => Same H12 H' ∧ H' D1 = some (.lst ((((Ls p).take i).map fun s => (((reg p s).length + 1 : Nat) : Int)).map V.int))) ⟨Same.new hD1, upd_same⟩
        (fun i H' _ h => SqL.of (h.1 _ _ I.o)) ?_ ?_
      · rintro i x H' hi ⟨e, hd1⟩
        rw [List.getElem?_map] at hi
        obtain ⟨u, hu1, rfl⟩ := Option.map_eq_some_iff.mp hi
        obtain ⟨s0, hs0, _⟩ := paired_at F11.r hu1
        obtain ⟨z1, ys, z2, z3⟩ := ue i u s0 hu1 hs0
        have him := (List.getElem?_eq_some_iff.mp hu1).1
        refine ⟨u.1, _, rfl, SqT.of (e _ _ z1), rfl, _, _, rfl, _, _, rfl, rfl, rfl, tyes_go ?_⟩
        refine ⟨_, rfl, _, (reg p s0).length + 1, rfl, .inl ⟨_, SqL.of (e _ _ z2), z3.symm⟩, _, hd1, ?_, Same.mut e hD1, ?_⟩
        · rw [List.length_map, List.length_map, List.length_take]
          exact small1000 (by omega)
        · rw [upd_same, take_snoc hs0, List.map_append, List.map_append]
          rfl
      · rintro H13 ⟨e13, hd1⟩
        rw [List.length_map, ul, List.take_length] at hd1
        have K13 := I.k.xt (Same.xt e13)
        refine ⟨_, rfl, Kl, rfl, ⟨_, SqL.of K13.o⟩, fun D2 hD2 => ?_⟩
        refine lc_list (K := K) (xs := ks.map fun u => V.ref u.1) (fun i H' => Same H13 H' ∧ H' D2 = some (.lst ((((Ls p).take i).map fun s => (((reg p s).length + 1 : Nat) : Int)).map V.int))) ⟨Same.new hD2, upd_same⟩
          (fun i H' _ h => SqL.of (h.1 _ _ K13.o)) ?_ ?_
        · rintro i x H' hi ⟨e, hd2⟩
          rw [List.getElem?_map] at hi
          obtain ⟨u, hu1, rfl⟩ := Option.map_eq_some_iff.mp hi
          obtain ⟨s0, hs0, R⟩ := paired_at K13.r hu1
          obtain ⟨cs, z2, z3⟩ := R.l
          have him := (List.getElem?_eq_some_iff.mp hu1).1
          have kl := K13.len
          refine ⟨u.1, _, rfl, SqT.of (e _ _ R.t), rfl, _, _, rfl, _, _, rfl, rfl, rfl, tyes_go ?_⟩
          refine ⟨_, rfl, _, (reg p s0).length, rfl, .inl ⟨_, SqL.of (e _ _ z2), by rw [List.length_map, Paired.length z3]⟩, _, _, rfl, rfl, _, hd2, ?_, Same.mut e hD2, ?_⟩
          · rw [List.length_map, List.length_map, List.length_take]
            exact small1000 (by omega)
          · rw [upd_same, take_snoc hs0, List.map_append, List.map_append]
            rfl
        · rintro H14 ⟨e14, hd2⟩
          rw [List.length_map, K13.len, List.take_length] at hd2
          refine ⟨dRow _, dRow _, dp_row (e14 _ _ hd1), dp_row hd2, (sh_row _).shaped (by decide), (sh_row _).shaped (by decide), _, rfl, ?_⟩
          rw [eqv_self (sh_row _)]
          exact k H14 fun b o h => e14 _ _ (e13 _ _ h)
    intro H13 e13
    refine go_next ?_
    dsimp only
    have hl13 := e13 _ _ I.o
    -- None behind the list of the regions
    refine ⟨_, rfl, .inl ⟨rfl, _, SqL.of hl13⟩, l, _, _, rfl, rfl, hl13, ?_, ?_⟩
    · rw [List.length_map, ul]
      exact small1000 (by omega)
    have x14 : Xt H2 (upd H13 l (.lst ((us.map fun u => V.ref u.1) ++ [.non]))) := (I.x.trans (Same.xt e13)).put fl
    have tb14 : Tb Pt (upd H13 l (.lst ((us.map fun u => V.ref u.1) ++ [.non]))) := (I.t.same e13).l hl13
    have K14 : FoundAt (upd H13 l (.lst ((us.map fun u => V.ref u.1) ++ [.non]))) Kl ks p := by
      have K13 := I.k.xt (Same.xt e13)
      refine ⟨by rw [upd_ne (Ne.symm nlK)]; exact K13.o, paired_extM (fun v hv s r => r.upd (fun b ys hb z => by rw [z, hl13] at hb; cases hb) fun z => ?_) K13.r⟩
      have := F9.o
      rw [← z, (hkn v hv).1] at this
      cases this
    revert x14 tb14 K14
    generalize upd H13 l (.lst ((us.map fun u => V.ref u.1) ++ [.non])) = H14
    intro x14 tb14 K14
    have P14 := A1.xt x14
    have G14 := A2.xt x14
    have hs14 : Scr K H14 a xs := (show Scr K H2 a xs from hs20).xt x14
    -- the regions again
    refine ⟨_, rfl, .inr ⟨ha, hrs, p, rfl, tb14, G14, g, fun H15 l2 us2 x15 tb15 fl2 hl2 hF2 _ _ => ?_⟩⟩
    have K15 := K14.xt x15
    have P15 := P14.xt x15
    have G15 := G14.xt x15
    refine ⟨_, rfl, dFound p, dFound p, dp_found ⟨hl2, hF2⟩, dp_found K15, (sh_found p).shaped (by decide), (sh_found p).shaped (by decide), true, ?_, iteT ?_⟩
    · rw [eqv_self (sh_found p)]
    refine ⟨_, rfl, _, rfl, dPic p, dPic p, dp_pic G15, dp_pic P15, (sh_pic p).shaped (by decide), (sh_pic p).shaped (by decide), true, ?_, iteT ?_⟩
    · rw [eqv_self (sh_pic p)]
    exact ⟨_, rfl, _, rfl, a, xs, 0, rfl, hs14.xt x15, by decide, by decide, fun n n0 n1 => ⟨n, ha, hrs, p, rfl, n0, G15, g, fun H' _ => k H'⟩⟩
end
end Cf

set_option Elab.async false
set_option linter.all false
set_option maxRecDepth 100000
set_option maxHeartbeats 0
namespace Cf
open PySem PySem.Spec PyProof.Rows L2
def d_is_among : He.DefD := ⟨("is_among", none), "is_among", "is_among", defArgs s_is_among, defBody s_is_among, defScope s_is_among, [], []⟩
def d_is_cell : He.DefD := ⟨("is_cell", none), "is_cell", "is_cell", defArgs s_is_cell, defBody s_is_cell, defScope s_is_cell, [], []⟩
def d_are_cells : He.DefD := ⟨("are_cells", none), "are_cells", "are_cells", defArgs s_are_cells, defBody s_are_cells, defScope s_are_cells, [], []⟩
def d_is_picture : He.DefD := ⟨("is_picture", none), "is_picture", "is_picture", defArgs s_is_picture, defBody s_is_picture, defScope s_is_picture, [], []⟩
def d_need_picture : He.DefD := ⟨("need_picture", none), "need_picture", "need_picture", defArgs s_need_picture, defBody s_need_picture, defScope s_need_picture, [], []⟩
def d_need_place : He.DefD := ⟨("need_place", none), "need_place", "need_place", defArgs s_need_place, defBody s_need_place, defScope s_need_place, [], []⟩
def d_in_order : He.DefD := ⟨("in_order", none), "in_order", "in_order", defArgs s_in_order, defBody s_in_order, defScope s_in_order, [], []⟩
def d_led_to : He.DefD := ⟨("led_to", none), "led_to", "led_to", defArgs s_led_to, defBody s_led_to, defScope s_led_to, [], []⟩
def d_regions_of : He.DefD := ⟨("regions_of", none), "regions_of", "regions_of", defArgs s_regions_of, defBody s_regions_of, defScope s_regions_of, [], []⟩
def d_region_at : He.DefD := ⟨("region_at", none), "region_at", "region_at", defArgs s_region_at, defBody s_region_at, defScope s_region_at, [], []⟩
def d_border_of : He.DefD := ⟨("border_of", none), "border_of", "border_of", defArgs s_border_of, defBody s_border_of, defScope s_border_of, [], []⟩
def d_l_cell : He.DefD := ⟨("_law_cell", none), "_law_cell", "_law_cell", defArgs s_l_cell, defBody s_l_cell, defScope s_l_cell, [], []⟩
def d_l_mixed : He.DefD := ⟨("_law_mixed", none), "_law_mixed", "_law_mixed", defArgs s_l_mixed, defBody s_l_mixed, defScope s_l_mixed, [], []⟩
def d_l_whole : He.DefD := ⟨("_law_whole", none), "_law_whole", "_law_whole", defArgs s_l_whole, defBody s_l_whole, defScope s_l_whole, [], []⟩
def d_l_picture : He.DefD := ⟨("_law_picture", none), "_law_picture", "_law_picture", defArgs s_l_picture, defBody s_l_picture, defScope s_l_picture, [], []⟩
def d_l_great : He.DefD := ⟨("_law_great", none), "_law_great", "_law_great", defArgs s_l_great, defBody s_l_great, defScope s_l_great, [], []⟩
def d_l_class : He.DefD := ⟨("_law_class", none), "_law_class", "_law_class", defArgs s_l_class, defBody s_l_class, defScope s_l_class, [], []⟩
def d_l_wrong_picture : He.DefD := ⟨("_law_wrong_picture", none), "_law_wrong_picture", "_law_wrong_picture", defArgs s_l_wrong_picture, defBody s_l_wrong_picture, defScope s_l_wrong_picture, [], []⟩
def d_l_copied : He.DefD := ⟨("_law_copied", none), "_law_copied", "_law_copied", defArgs s_l_copied, defBody s_l_copied, defScope s_l_copied, [], []⟩
def d_l_word : He.DefD := ⟨("_law_word", none), "_law_word", "_law_word", defArgs s_l_word, defBody s_l_word, defScope s_l_word, [], []⟩
def d_l_beside : He.DefD := ⟨("_law_beside", none), "_law_beside", "_law_beside", defArgs s_l_beside, defBody s_l_beside, defScope s_l_beside, [], []⟩
def d_l_hangs : He.DefD := ⟨("_law_hangs", none), "_law_hangs", "_law_hangs", defArgs s_l_hangs, defBody s_l_hangs, defScope s_l_hangs, [], []⟩
def d_l_rises : He.DefD := ⟨("_law_rises", none), "_law_rises", "_law_rises", defArgs s_l_rises, defBody s_l_rises, defScope s_l_rises, [], []⟩
def d_l_is_region : He.DefD := ⟨("_law_is_region", none), "_law_is_region", "_law_is_region", defArgs s_l_is_region, defBody s_l_is_region, defScope s_l_is_region, [], []⟩
def d_l_owners : He.DefD := ⟨("_law_owners", none), "_law_owners", "_law_owners", defArgs s_l_owners, defBody s_l_owners, defScope s_l_owners, [], []⟩
def d_l_parted : He.DefD := ⟨("_law_parted", none), "_law_parted", "_law_parted", defArgs s_l_parted, defBody s_l_parted, defScope s_l_parted, [], []⟩
def d_l_borders_right : He.DefD := ⟨("_law_borders_right", none), "_law_borders_right", "_law_borders_right", defArgs s_l_borders_right, defBody s_l_borders_right, defScope s_l_borders_right, [], []⟩
def d_l_refused : He.DefD := ⟨("_law_refused", none), "_law_refused", "_law_refused", defArgs s_l_refused, defBody s_l_refused, defScope s_l_refused, [], []⟩
def d_law : He.DefD := ⟨("law", none), "law", "law", defArgs s_law, defBody s_law, defScope s_law, [], []⟩
def fn : List He.DefD := [d_is_among, d_is_cell, d_are_cells, d_is_picture, d_need_picture, d_need_place, d_in_order, d_led_to, d_regions_of, d_region_at, d_border_of, d_l_cell, d_l_mixed, d_l_whole, d_l_picture, d_l_great, d_l_class, d_l_wrong_picture, d_l_copied, d_l_word, d_l_beside, d_l_hangs, d_l_rises, d_l_is_region, d_l_owners, d_l_parted, d_l_borders_right, d_l_refused, d_law]
def fa : List He.Fa := [.free "isinstance", .free "int", .free "bool", .free "list", .free "tuple", .free "all", .free "len", .free "sorted", .free "range", .free "enumerate", .free "min", .free "ValueError", .int "MOST_SIDE" 24, .int "MOST_CELL" 15,
  .glo "FolioError", .glo "BadPicture", .glo "BadCell", .glo "BadSize", .glo "OutOfPlace", .glo "BadMask", .glo "BadRule", .glo "BadEdge", .glo "SIDES",
  .keep "BadPicture", .keep "OutOfPlace", .exm "BadPicture" "FolioError" true, .exm "OutOfPlace" "FolioError" true,
  .glo "is_among", .glo "is_cell", .glo "are_cells", .glo "is_picture", .glo "need_picture", .glo "need_place", .glo "in_order", .glo "led_to", .glo "regions_of", .glo "region_at", .glo "border_of", .glo "_law_cell", .glo "_law_mixed", .glo "_law_whole", .glo "_law_picture", .glo "_law_great", .glo "_law_class", .glo "_law_wrong_picture", .glo "_law_copied", .glo "_law_word", .glo "_law_beside", .glo "_law_hangs", .glo "_law_rises", .glo "_law_is_region", .glo "_law_owners", .glo "_law_parted", .glo "_law_borders_right", .glo "_law_refused", .glo "law"]
/-- the i-th item of the tuple at a -/
def itemAt (K : PySem.W.Frag) (a : Addr) (i : Nat) : Addr := match K.lookup a with
  | some ⟨_, _, .seq its _, _⟩ => (match its.toList[i]? with
    | some (.ref b) => b
    | _ => 0)
  | _ => 0
def tupAt (K : PySem.W.Frag) (a : Addr) (vs : List V) : Bool := match K.lookup a with
  | some ⟨.type c, _, .seq its _, _⟩ => decide (c = "tuple") && (decide (its.size ≤ sizeLine) && He.relAll vs its.toList)
  | _ => false
def sideA (K : PySem.W.Frag) (i : Nat) : Addr := itemAt K (He.ga K "SIDES") i
/-- what isinstance says of an own error of the class D -/
def ises (K : PySem.W.Frag) (D : Addr) (pic pla : Bool) : Bool :=
  decide (PySem.W.kitOne K (.ref D) (.type "ValueError") = some true) && (decide (PySem.W.kitOne K (.ref D) (.ref (He.ga K "BadPicture")) = some pic) && (decide (PySem.W.kitOne K (.ref D) (.ref (He.ga K "BadCell")) = some false) &&
  (decide (PySem.W.kitOne K (.ref D) (.ref (He.ga K "BadSize")) = some false) && (decide (PySem.W.kitOne K (.ref D) (.ref (He.ga K "BadMask")) = some false) && (decide (PySem.W.kitOne K (.ref D) (.ref (He.ga K "OutOfPlace")) = some pla) &&
  (decide (PySem.W.kitOne K (.ref D) (.ref (He.ga K "BadEdge")) = some false) && decide (PySem.W.kitOne K (.ref D) (.ref (He.ga K "BadRule")) = some false)))))))
/-- an own error's class, straight under FolioError -/
def excB (K : PySem.W.Frag) (D : Addr) : Bool :=
  PySem.W.excIn K D He.veBase "ValueError.__new__" && (decide (PySem.W.subIn K (.ref D) (.type "BaseException") = some true) && (decide (PySem.W.typeIn K (.ref D) = some (.type "type")) && (PySem.W.hasDictIn K D &&
  (decide (PySem.W.findIn K (.ref D) "__getattribute__" = some (some (.builtin "BaseException.__getattribute__"))) && (decide (PySem.W.findIn K (.ref D) "__getattr__" = some none) &&
  (decide (PySem.W.findIn K (.ref D) "__class__" = some (some (.builtin "object.__class__"))) && decide (PySem.W.mroIn K D (.type "object") = some true)))))))
def exAll (K : PySem.W.Frag) : Bool :=
  tupAt K (He.ga K "SIDES") [.ref (sideA K 0), .ref (sideA K 1), .ref (sideA K 2), .ref (sideA K 3)] && (tupAt K (sideA K 0) [.int 0, .int (-1)] && (tupAt K (sideA K 1) [.int (-1), .int 0] && (tupAt K (sideA K 2) [.int 1, .int 0] && (tupAt K (sideA K 3) [.int 0, .int 1] &&
  (excB K (He.ga K "BadPicture") && (excB K (He.ga K "OutOfPlace") && (ises K (He.ga K "BadPicture") true false && (ises K (He.ga K "OutOfPlace") false true &&
  (decide (PySem.W.specialIn K (.builtin "object.__class__") "__get__" = some (some (.builtin "getset_descriptor.__get__"))) && decide (PySem.W.takesIn K (.builtin "object.__class__") = some true))))))))))
def tf : List He.Defn := [("in_order", none)]
abbrev RR : PySem.W.OpenRow := PySem.W.OpenLaw.row PySem.Challenge.rw_cellfolio_k30_whole_regions
abbrev hk : PySem.W.Hook := He.hookX 4 fa fn [] tf exAll
def ob (s : PySem.W.SharedT) : He.AlX := He.obsX 4 fa fn [] tf exAll (HandSHeadRun.getT s)
theorem ob_eq (s : PySem.W.SharedT) : ob s = hk.obs s.abs := He.obsX_eq (HandSHeadRun.getT_eq s)
def loose1 : List Str := ["__name__", "FolioError", "BadPicture", "BadCell", "BadSize", "OutOfPlace", "BadMask", "BadRule", "BadEdge", "MOST_SIDE", "MOST_CELL", "is_among", "is_cell", "are_cells", "is_picture", "need_picture", "need_place", "SIDES", "in_order", "led_to", "regions_of", "region_at", "border_of"]
def loose2 : List Str := ["_law_cell", "_law_mixed", "_law_whole", "_law_picture", "_law_great", "_law_class", "_law_wrong_picture", "_law_copied", "_law_word", "_law_beside", "_law_hangs", "_law_rises", "_law_is_region", "_law_owners", "_law_parted", "_law_borders_right", "_law_refused"]
def looseN : List Str := loose1 ++ loose2
theorem run (w : World) : HandSHeadRun.RunEq RR (PySem.W.view RR.prog [43]) hk ob 3000 looseN w := by
  intro os
  kernel_rfl
end Cf

set_option Elab.async false
set_option linter.all false
set_option maxRecDepth 100000
set_option maxHeartbeats 0
namespace Cf
open PySem PySem.Spec PyProof.Rows L2
/-! ### the facts of the head -/
theorem tupAt_ok {K : PySem.W.Frag} {a : Addr} {vs : List V} (h : tupAt K a vs = true) (H : Hp) : SqT K H a vs := by
  unfold tupAt at h
  split at h
  · rename_i c od its n sl lk
    obtain ⟨h1, h2⟩ := He.ba h
    obtain ⟨h3, h4⟩ := He.ba h2
    exact .inr ⟨_, its, _, lk, by rw [of_decide_eq_true h1], rfl, of_decide_eq_true h3, He.relAll_ok h4⟩
  · cases h
theorem codeIn_ref {K : PySem.W.Frag} {v : Value} {q : Str} (h : PySem.W.codeIn K v q = true) : ∃ c, v = .ref c := by
  unfold PySem.W.codeIn at h
  split at h
  · exact ⟨_, rfl⟩
  · cases h
theorem rs_of {K : PySem.W.Frag} {D : Addr} (h : excB K D = true) (hk : PySem.W.keepIn K (.ref D) = true) : Rs K D := by
  unfold excB at h
  obtain ⟨h1, h⟩ := He.ba h
  obtain ⟨h2, h⟩ := He.ba h
  obtain ⟨h3, h⟩ := He.ba h
  exact ⟨h1, hk, of_decide_eq_true h2, of_decide_eq_true h3⟩
theorem exc_of {K : PySem.W.Frag} {D : Addr} (h : excB K D = true) (s1 : PySem.W.specialIn K (.builtin "object.__class__") "__get__" = some (some (.builtin "getset_descriptor.__get__"))) (s2 : PySem.W.takesIn K (.builtin "object.__class__") = some true) : ExcC K D := by
  unfold excB at h
  obtain ⟨h1, h⟩ := He.ba h
  obtain ⟨h2, h⟩ := He.ba h
  obtain ⟨h3, h⟩ := He.ba h
  obtain ⟨h4, h⟩ := He.ba h
  obtain ⟨h5, h⟩ := He.ba h
  obtain ⟨h6, h⟩ := He.ba h
  obtain ⟨h7, h8⟩ := He.ba h
  exact ⟨of_decide_eq_true h5, of_decide_eq_true h6, of_decide_eq_true h2, h4, of_decide_eq_true h7, s1, s2, of_decide_eq_true h8⟩
theorem exd_of {K : PySem.W.Frag} {D : Addr} {b1 b2 : Bool} (E : ExcC K D) (h : ises K D b1 b2 = true) : ExD K D (He.ga K "BadPicture") (He.ga K "OutOfPlace") (He.ga K "BadCell") (He.ga K "BadSize") (He.ga K "BadMask") (He.ga K "BadEdge") (He.ga K "BadRule") b1 b2 := by
  unfold ises at h
  obtain ⟨h1, h⟩ := He.ba h
  obtain ⟨h2, h⟩ := He.ba h
  obtain ⟨h3, h⟩ := He.ba h
  obtain ⟨h4, h⟩ := He.ba h
  obtain ⟨h5, h⟩ := He.ba h
  obtain ⟨h6, h⟩ := He.ba h
  obtain ⟨h7, h8⟩ := He.ba h
  exact ⟨E, of_decide_eq_true h1, of_decide_eq_true h2, of_decide_eq_true h6, of_decide_eq_true h3, of_decide_eq_true h4, of_decide_eq_true h5, of_decide_eq_true h7, of_decide_eq_true h8⟩
abbrev aP (K : PySem.W.Frag) : Addr := (He.cT K ("in_order", none)).2
abbrev aC (K : PySem.W.Frag) : Addr := (He.cT K ("in_order", none)).1
theorem facts {P : Program} {w : World} {K : PySem.W.Frag} {h : Heap} {mg : Str → Option Value} {f : Addr} (X : K.In h) (G : h.Ns mainGlobals mg) (hfa : mg ("law" : Str) = some (.ref f)) (c : He.SaysX fa fn [] tf exAll w h K) :
    ∃ fd : FuncData, (∀ (s : Shared) (u : Value), BindsTo s fd ⟨[u], []⟩ [("_law_script", u)]) ∧ ∀ base : Heap, K.In base → base.Ns mainGlobals mg → LamX.TabB base mg (aC K) (aP K) → FnOk P w K mg base CX0 9 f fd ["_law_script"] (spLaw K (aP K)) := by
  have more := c.more
  unfold exAll at more
  obtain ⟨m1, more⟩ := He.ba more
  obtain ⟨m2, more⟩ := He.ba more
  obtain ⟨m3, more⟩ := He.ba more
  obtain ⟨m4, more⟩ := He.ba more
  obtain ⟨m5, more⟩ := He.ba more
  obtain ⟨m6, more⟩ := He.ba more
  obtain ⟨m7, more⟩ := He.ba more
  obtain ⟨m8, more⟩ := He.ba more
  obtain ⟨m9, more⟩ := He.ba more
  obtain ⟨m10, m11⟩ := He.ba more
  have s1 := of_decide_eq_true m10
  have s2 := of_decide_eq_true m11
  have T : Tx K mg (He.ga K "BadPicture") (He.ga K "OutOfPlace") (He.ga K "FolioError") (He.ga K "SIDES") (sideA K 0) (sideA K 1) (sideA K 2) (sideA K 3) := {
    isinstance := He.free_ok X G (c.t.d.fact 0 (f := .free "isinstance") rfl)
    int := He.free_ok X G (c.t.d.fact 1 (f := .free "int") rfl)
    bool := He.free_ok X G (c.t.d.fact 2 (f := .free "bool") rfl)
    list := He.free_ok X G (c.t.d.fact 3 (f := .free "list") rfl)
    tuple := He.free_ok X G (c.t.d.fact 4 (f := .free "tuple") rfl)
    all := He.free_ok X G (c.t.d.fact 5 (f := .free "all") rfl)
    len := He.free_ok X G (c.t.d.fact 6 (f := .free "len") rfl)
    sorted := He.free_ok X G (c.t.d.fact 7 (f := .free "sorted") rfl)
    range := He.free_ok X G (c.t.d.fact 8 (f := .free "range") rfl)
    enumerate := He.free_ok X G (c.t.d.fact 9 (f := .free "enumerate") rfl)
    min := He.free_ok X G (c.t.d.fact 10 (f := .free "min") rfl)
    ValueError := He.free_ok X G (c.t.d.fact 11 (f := .free "ValueError") rfl)
    side := (He.int_ok X G (c.t.d.fact 12 (f := .int "MOST_SIDE" 24) rfl)).elim fun t e => ⟨_, e, t, rfl⟩
    cell := (He.int_ok X G (c.t.d.fact 13 (f := .int "MOST_CELL" 15) rfl)).elim fun t e => ⟨_, e, t, rfl⟩
    gSIDES := ⟨_, He.glo_ok X G (c.t.d.fact 22 (f := .glo "SIDES") rfl), rfl⟩
    sides := tupAt_ok m1
    s0 := tupAt_ok m2
    s1 := tupAt_ok m3
    s2 := tupAt_ok m4
    s3 := tupAt_ok m5
    gBadPicture := He.glo_ok X G (c.t.d.fact 15 (f := .glo "BadPicture") rfl)
    gOutOfPlace := He.glo_ok X G (c.t.d.fact 18 (f := .glo "OutOfPlace") rfl)
    gFolioError := He.glo_ok X G (c.t.d.fact 14 (f := .glo "FolioError") rfl)
  }
  have V7 : Tv mg (He.ga K "BadPicture") (He.ga K "OutOfPlace") (He.ga K "BadCell") (He.ga K "BadSize") (He.ga K "BadMask") (He.ga K "BadEdge") (He.ga K "BadRule") := {
    vBadPicture := ⟨_, He.glo_ok X G (c.t.d.fact 15 (f := .glo "BadPicture") rfl), rfl⟩
    vOutOfPlace := ⟨_, He.glo_ok X G (c.t.d.fact 18 (f := .glo "OutOfPlace") rfl), rfl⟩
    vBadCell := ⟨_, He.glo_ok X G (c.t.d.fact 16 (f := .glo "BadCell") rfl), rfl⟩
    vBadSize := ⟨_, He.glo_ok X G (c.t.d.fact 17 (f := .glo "BadSize") rfl), rfl⟩
    vBadMask := ⟨_, He.glo_ok X G (c.t.d.fact 19 (f := .glo "BadMask") rfl), rfl⟩
    vBadEdge := ⟨_, He.glo_ok X G (c.t.d.fact 21 (f := .glo "BadEdge") rfl), rfl⟩
    vBadRule := ⟨_, He.glo_ok X G (c.t.d.fact 20 (f := .glo "BadRule") rfl), rfl⟩
  }
  have R1 := rs_of m6 (He.keep_ok (c.t.d.fact 23 (f := .keep "BadPicture") rfl))
  have R2 := rs_of m7 (He.keep_ok (c.t.d.fact 24 (f := .keep "OutOfPlace") rfl))
  have E1 := exd_of (exc_of m6 s1 s2) m8
  have E2 := exd_of (exc_of m7 s1 s2) m9
  have X1 := He.exm_ok (c.t.d.fact 25 (f := .exm "BadPicture" "FolioError" true) rfl)
  have X2 := He.exm_ok (c.t.d.fact 26 (f := .exm "OutOfPlace" "FolioError" true) rfl)
  obtain ⟨fd0, F0⟩ := c.t.d.def_ 0 (d := d_is_among) rfl
  have g0 := He.glo_ok X G (c.t.d.fact 27 (f := .glo "is_among") rfl)
  have D_is_among : Df K mg "is_among" s_is_among := ⟨_, fd0, F0, g0⟩
  obtain ⟨fd1, F1⟩ := c.t.d.def_ 1 (d := d_is_cell) rfl
  have g1 := He.glo_ok X G (c.t.d.fact 28 (f := .glo "is_cell") rfl)
  have D_is_cell : Df K mg "is_cell" s_is_cell := ⟨_, fd1, F1, g1⟩
  obtain ⟨fd2, F2⟩ := c.t.d.def_ 2 (d := d_are_cells) rfl
  have g2 := He.glo_ok X G (c.t.d.fact 29 (f := .glo "are_cells") rfl)
  have D_are_cells : Df K mg "are_cells" s_are_cells := ⟨_, fd2, F2, g2⟩
  obtain ⟨fd3, F3⟩ := c.t.d.def_ 3 (d := d_is_picture) rfl
  have g3 := He.glo_ok X G (c.t.d.fact 30 (f := .glo "is_picture") rfl)
  have D_is_picture : Df K mg "is_picture" s_is_picture := ⟨_, fd3, F3, g3⟩
  obtain ⟨fd4, F4⟩ := c.t.d.def_ 4 (d := d_need_picture) rfl
  have g4 := He.glo_ok X G (c.t.d.fact 31 (f := .glo "need_picture") rfl)
  have D_need_picture : Df K mg "need_picture" s_need_picture := ⟨_, fd4, F4, g4⟩
  obtain ⟨fd5, F5⟩ := c.t.d.def_ 5 (d := d_need_place) rfl
  have g5 := He.glo_ok X G (c.t.d.fact 32 (f := .glo "need_place") rfl)
  have D_need_place : Df K mg "need_place" s_need_place := ⟨_, fd5, F5, g5⟩
  obtain ⟨fd6, F6⟩ := c.t.d.def_ 6 (d := d_in_order) rfl
  have g6 := He.glo_ok X G (c.t.d.fact 33 (f := .glo "in_order") rfl)
  have D_in_order : Df K mg "in_order" s_in_order := ⟨_, fd6, F6, g6⟩
  obtain ⟨fd7, F7⟩ := c.t.d.def_ 7 (d := d_led_to) rfl
  have g7 := He.glo_ok X G (c.t.d.fact 34 (f := .glo "led_to") rfl)
  have D_led_to : Df K mg "led_to" s_led_to := ⟨_, fd7, F7, g7⟩
  obtain ⟨fd8, F8⟩ := c.t.d.def_ 8 (d := d_regions_of) rfl
  have g8 := He.glo_ok X G (c.t.d.fact 35 (f := .glo "regions_of") rfl)
  have D_regions_of : Df K mg "regions_of" s_regions_of := ⟨_, fd8, F8, g8⟩
  obtain ⟨fd9, F9⟩ := c.t.d.def_ 9 (d := d_region_at) rfl
  have g9 := He.glo_ok X G (c.t.d.fact 36 (f := .glo "region_at") rfl)
  have D_region_at : Df K mg "region_at" s_region_at := ⟨_, fd9, F9, g9⟩
  obtain ⟨fd10, F10⟩ := c.t.d.def_ 10 (d := d_border_of) rfl
  have g10 := He.glo_ok X G (c.t.d.fact 37 (f := .glo "border_of") rfl)
  have D_border_of : Df K mg "border_of" s_border_of := ⟨_, fd10, F10, g10⟩
  obtain ⟨fd11, F11⟩ := c.t.d.def_ 11 (d := d_l_cell) rfl
  have g11 := He.glo_ok X G (c.t.d.fact 38 (f := .glo "_law_cell") rfl)
  have D_l_cell : Df K mg "_law_cell" s_l_cell := ⟨_, fd11, F11, g11⟩
  obtain ⟨fd12, F12⟩ := c.t.d.def_ 12 (d := d_l_mixed) rfl
  have g12 := He.glo_ok X G (c.t.d.fact 39 (f := .glo "_law_mixed") rfl)
  have D_l_mixed : Df K mg "_law_mixed" s_l_mixed := ⟨_, fd12, F12, g12⟩
  obtain ⟨fd13, F13⟩ := c.t.d.def_ 13 (d := d_l_whole) rfl
  have g13 := He.glo_ok X G (c.t.d.fact 40 (f := .glo "_law_whole") rfl)
  have D_l_whole : Df K mg "_law_whole" s_l_whole := ⟨_, fd13, F13, g13⟩
  obtain ⟨fd14, F14⟩ := c.t.d.def_ 14 (d := d_l_picture) rfl
  have g14 := He.glo_ok X G (c.t.d.fact 41 (f := .glo "_law_picture") rfl)
  have D_l_picture : Df K mg "_law_picture" s_l_picture := ⟨_, fd14, F14, g14⟩
  obtain ⟨fd15, F15⟩ := c.t.d.def_ 15 (d := d_l_great) rfl
  have g15 := He.glo_ok X G (c.t.d.fact 42 (f := .glo "_law_great") rfl)
  have D_l_great : Df K mg "_law_great" s_l_great := ⟨_, fd15, F15, g15⟩
  obtain ⟨fd16, F16⟩ := c.t.d.def_ 16 (d := d_l_class) rfl
  have g16 := He.glo_ok X G (c.t.d.fact 43 (f := .glo "_law_class") rfl)
  have D_l_class : Df K mg "_law_class" s_l_class := ⟨_, fd16, F16, g16⟩
  obtain ⟨fd17, F17⟩ := c.t.d.def_ 17 (d := d_l_wrong_picture) rfl
  have g17 := He.glo_ok X G (c.t.d.fact 44 (f := .glo "_law_wrong_picture") rfl)
  have D_l_wrong_picture : Df K mg "_law_wrong_picture" s_l_wrong_picture := ⟨_, fd17, F17, g17⟩
  obtain ⟨fd18, F18⟩ := c.t.d.def_ 18 (d := d_l_copied) rfl
  have g18 := He.glo_ok X G (c.t.d.fact 45 (f := .glo "_law_copied") rfl)
  have D_l_copied : Df K mg "_law_copied" s_l_copied := ⟨_, fd18, F18, g18⟩
  obtain ⟨fd19, F19⟩ := c.t.d.def_ 19 (d := d_l_word) rfl
  have g19 := He.glo_ok X G (c.t.d.fact 46 (f := .glo "_law_word") rfl)
  have D_l_word : Df K mg "_law_word" s_l_word := ⟨_, fd19, F19, g19⟩
  obtain ⟨fd20, F20⟩ := c.t.d.def_ 20 (d := d_l_beside) rfl
  have g20 := He.glo_ok X G (c.t.d.fact 47 (f := .glo "_law_beside") rfl)
  have D_l_beside : Df K mg "_law_beside" s_l_beside := ⟨_, fd20, F20, g20⟩
  obtain ⟨fd21, F21⟩ := c.t.d.def_ 21 (d := d_l_hangs) rfl
  have g21 := He.glo_ok X G (c.t.d.fact 48 (f := .glo "_law_hangs") rfl)
  have D_l_hangs : Df K mg "_law_hangs" s_l_hangs := ⟨_, fd21, F21, g21⟩
  obtain ⟨fd22, F22⟩ := c.t.d.def_ 22 (d := d_l_rises) rfl
  have g22 := He.glo_ok X G (c.t.d.fact 49 (f := .glo "_law_rises") rfl)
  have D_l_rises : Df K mg "_law_rises" s_l_rises := ⟨_, fd22, F22, g22⟩
  obtain ⟨fd23, F23⟩ := c.t.d.def_ 23 (d := d_l_is_region) rfl
  have g23 := He.glo_ok X G (c.t.d.fact 50 (f := .glo "_law_is_region") rfl)
  have D_l_is_region : Df K mg "_law_is_region" s_l_is_region := ⟨_, fd23, F23, g23⟩
  obtain ⟨fd24, F24⟩ := c.t.d.def_ 24 (d := d_l_owners) rfl
  have g24 := He.glo_ok X G (c.t.d.fact 51 (f := .glo "_law_owners") rfl)
  have D_l_owners : Df K mg "_law_owners" s_l_owners := ⟨_, fd24, F24, g24⟩
  obtain ⟨fd25, F25⟩ := c.t.d.def_ 25 (d := d_l_parted) rfl
  have g25 := He.glo_ok X G (c.t.d.fact 52 (f := .glo "_law_parted") rfl)
  have D_l_parted : Df K mg "_law_parted" s_l_parted := ⟨_, fd25, F25, g25⟩
  obtain ⟨fd26, F26⟩ := c.t.d.def_ 26 (d := d_l_borders_right) rfl
  have g26 := He.glo_ok X G (c.t.d.fact 53 (f := .glo "_law_borders_right") rfl)
  have D_l_borders_right : Df K mg "_law_borders_right" s_l_borders_right := ⟨_, fd26, F26, g26⟩
  obtain ⟨fd27, F27⟩ := c.t.d.def_ 27 (d := d_l_refused) rfl
  have g27 := He.glo_ok X G (c.t.d.fact 54 (f := .glo "_law_refused") rfl)
  have D_l_refused : Df K mg "_law_refused" s_l_refused := ⟨_, fd27, F27, g27⟩
  obtain ⟨fd28, F28⟩ := c.t.d.def_ 28 (d := d_law) rfl
  have g28 := He.glo_ok X G (c.t.d.fact 55 (f := .glo "law") rfl)
  have D_law : Df K mg "law" s_law := ⟨_, fd28, F28, g28⟩
  have DO : ∃ f fd, FnP K "in_order" s_in_order f fd ∧ mg "in_order" = some (.ref f) ∧ fd.code = .ref (aC K) := by
    refine ⟨_, fd6, F6, g6, ?_⟩
    obtain ⟨oc, od, dV, kV, doc, pm, an, cdv, ct, osl, rfl, lk, hcd, _, _⟩ := F6.ex
    obtain ⟨c0, rfl⟩ := codeIn_ref hcd
    have e := He.codeOf_eq (K := K) (p := ("in_order", none)) lk (c := c0) rfl
    show Value.ref c0 = .ref (He.codeOf K ("in_order", none))
    rw [e]
  have e := hfa.symm.trans g28
  cases e
  obtain ⟨fl, fdl, hb⟩ : ∃ fl : Addr, ∃ fdl : FuncData, FnP K "law" s_law fl fdl ∧ mg "law" = some (.ref fl) := ⟨_, fd28, F28, g28⟩
  have bl := FunD.bindsA (ps := ["_law_script"]) F28 fun _ _ _ _ _ _ us hl => match us, hl with | [_], _ => rfl
  refine ⟨fd28, fun s u => bl s [u] rfl, fun base _ _ TB => ?_⟩
  have c_is_among := ok_is_among (P := P) (w := w) (base := base) D_is_among T
  have c_is_cell := ok_is_cell D_is_cell T c_is_among
  have c_are_cells := ok_are_cells D_are_cells T c_is_cell
  have c_is_picture := ok_is_picture D_is_picture T c_are_cells
  have c_need_picture := ok_need_picture D_need_picture T R1 c_is_picture
  have c_need_place := ok_need_place D_need_place T R2 c_is_among
  have c_in_order := ok_in_order (P := P) (w := w) (base := base) DO T TB
  have c_led_to := ok_led_to D_led_to T c_in_order
  have c_regions_of := ok_regions_of D_regions_of T c_need_picture c_led_to
  have c_region_at := ok_region_at D_region_at T c_need_picture c_need_place c_led_to
  have c_border_of := ok_border_of (P := P) (w := w) (base := base) D_border_of T
  have c_l_cell := ok_l_cell (P := P) (w := w) (base := base) D_l_cell T
  have c_l_mixed := ok_l_mixed D_l_mixed T c_l_cell
  have c_l_whole := ok_l_whole (P := P) (w := w) (base := base) D_l_whole T
  have c_l_picture := ok_l_picture D_l_picture T c_l_mixed
  have c_l_great := ok_l_great D_l_great T c_l_mixed
  have c_l_wrong_picture := ok_l_wrong_picture (P := P) (w := w) (base := base) D_l_wrong_picture T
  have c_l_copied := ok_l_copied (P := P) (w := w) (base := base) D_l_copied T
  have c_l_word := ok_l_word D_l_word T V7 D_l_class E1 E2 X1 X2 c_regions_of c_region_at
  have c_l_beside := ok_l_beside (P := P) (w := w) (base := base) D_l_beside T
  have c_l_hangs := ok_l_hangs D_l_hangs T c_l_beside
  have c_l_rises := ok_l_rises (P := P) (w := w) (base := base) D_l_rises T
  have c_l_is_region := ok_l_is_region D_l_is_region T c_l_whole c_l_rises c_l_hangs
  have c_l_owners := ok_l_owners (P := P) (w := w) (base := base) D_l_owners T
  have c_l_parted := ok_l_parted (P := P) (w := w) (base := base) D_l_parted T
  have c_l_borders_right := ok_l_borders_right D_l_borders_right T c_l_whole c_l_beside c_border_of
  have c_l_refused := ok_l_refused D_l_refused T c_l_wrong_picture c_l_word
  exact ok_law F28 T ⟨c_l_mixed, c_l_great, c_l_picture, c_l_copied, c_regions_of, c_region_at, c_l_is_region, c_l_owners, c_l_parted, c_l_rises, c_l_borders_right, c_border_of, c_l_refused⟩
end Cf
open PySem PySem.W PySem.Calls PyProof.Rows
theorem PySem.Challenge.cw_cellfolio_k30_whole_regions_holds : PySem.Challenge.rw_cellfolio_k30_whole_regions.Holds := by
  w_on; o_law
  refine HandSHeadRun.head_any (r := OpenLaw.row PySem.Challenge.rw_cellfolio_k30_whole_regions) (q := view (OpenLaw.row PySem.Challenge.rw_cellfolio_k30_whole_regions).prog [43]) (H := Cf.hk) (ob := Cf.ob) (M := 3000) (loose := Cf.looseN) (d := HandSHeadRun.topDef (OpenLaw.row PySem.Challenge.rw_cellfolio_k30_whole_regions).prog 43) (kwd := []) Cf.ob_eq
    (by kernel_rfl) (fun s => by kernel_rfl) Cf.run (by kernel_rfl) (by kernel_rfl) (by kernel_rfl) (by rfl) (by first | assumption | decide +kernel) (by decide +kernel) ⟨rfl, rfl, rfl, rfl, rfl, by decide +kernel⟩ ?hw ?hc
  case hw => w_witness2
  case hc =>
    refine LamX.walk_ofTsE (l := PySem.Challenge.rw_cellfolio_k30_whole_regions) (n := 63) (k := 9) (x := "_law_script") (CX := fun _ => L2.CX0) rfl (by decide) (by kernel_rfl) ⟨rfl, by decide, by decide⟩ ?F (fun _ _ _ _ _ z => z)
    intro w mg fa h Y G hmg0
    obtain ⟨K, KX, c⟩ := Y
    have hmg : mg ("law" : PySem.Str) = some (.ref fa) := by
      have e : (HandSHeadRun.topDef (OpenLaw.row PySem.Challenge.rw_cellfolio_k30_whole_regions).prog 43).name = ("law" : PySem.Str) := by kernel_rfl
      rw [← e]
      exact hmg0
    obtain ⟨fd, hb, hF⟩ := Cf.facts (P := (PySem.Challenge.rw_cellfolio_k30_whole_regions).prog) (w := w) KX G hmg c
    refine ⟨K, KX, fd, [He.cT K ("in_order", none)], Cf.spLaw K (Cf.aP K), fun p hp => ?_, fun p hp => ?_, fun p hp => ?_, hb, fun H a ns hl hbits hT hS => ?_, fun base KB GB hTB => hF base KB GB (hTB _ List.mem_cons_self)⟩
    · rw [List.mem_singleton.mp hp]
      exact c.empty ("in_order", none) List.mem_cons_self
    · rw [List.mem_singleton.mp hp]
      exact c.out ("in_order", none) List.mem_cons_self
    · rw [List.mem_singleton.mp hp]
      exact PySem.W.codeHd_of_K KX (c.hd ("in_order", none) List.mem_cons_self)
    · refine ⟨a, ns, rfl, ⟨hS, hbits⟩, fun q hq => ?_, fun _ => rfl⟩
      rw [List.mem_singleton.mp hq]
      exact LamX.TabS.nil (hT _ List.mem_cons_self)

