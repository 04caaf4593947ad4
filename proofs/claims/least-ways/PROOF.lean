import PyProof.Rows.All
import Wide.All
import OpenK.AllK
import Wide.FinOn
import HandS.ForMost
import HandS.IsInst
import HandS.TupSets
import HandS.TupAny
import HandS.TupLe
import HandS.Walk
import HandS.Style
import HandS.Conv
import HandS.Deep
import HandS.WideMore
import HandS.Wide
import HandS.DictTup
import HandS.Evl
import KE.KDictDisplayH
import KE.KDictCopyH
import KE.KDictSum
import KE.SortData
import KE.LtData
import KE.GoesEnum
import PySem.Challenge.RW_clockadds_k19_whole_least_ways
set_option Elab.async false
set_option linter.all false
set_option maxRecDepth 100000
set_option maxHeartbeats 4000000
namespace CA
/-! Webs: clocks led to, parts, flows, marks (plain Lean) -/

/-- arrows lead from u to v -/
inductive R (as : List (Nat × Nat)) : Nat → Nat → Prop where
  | refl (u : Nat) : R as u u
  | tail {u v w : Nat} : R as u v → (v, w) ∈ as → R as u w

theorem R.trans {as : List (Nat × Nat)} {u v w : Nat} (a : R as u v) (b : R as v w) : R as u w := by
  induction b with
  | refl => exact a
  | tail _ h ih => exact .tail ih h
theorem R.one {as : List (Nat × Nat)} {u v : Nat} (h : (u, v) ∈ as) : R as u v := .tail (.refl u) h
theorem R.head {as : List (Nat × Nat)} {u v : Nat} (a : R as u v) : u = v ∨ ∃ w, (u, w) ∈ as ∧ R as w v := by
  induction a with
  | refl => exact .inl rfl
  | tail h1 h2 ih =>
    rename_i v w
    rcases ih with rfl | ⟨x, hx, hr⟩
    · exact .inr ⟨w, h2, .refl w⟩
    · exact .inr ⟨x, hx, .tail hr h2⟩

noncomputable def rb (as : List (Nat × Nat)) (u v : Nat) : Bool := @decide (R as u v) (Classical.propDecidable _)
theorem rb_iff {as : List (Nat × Nat)} {u v : Nat} : rb as u v = true ↔ R as u v := by
  unfold rb
  exact @decide_eq_true_iff _ (Classical.propDecidable _)

/-- a web of n clocks -/
structure VW (n : Nat) (as : List (Nat × Nat)) : Prop where
  lt1 : ∀ a ∈ as, a.1 < n
  lt2 : ∀ a ∈ as, a.2 < n
  ne : ∀ a ∈ as, a.1 ≠ a.2

theorem VW.lt {n : Nat} {as : List (Nat × Nat)} (h : VW n as) {u v : Nat} (r : R as u v) (hu : u < n) : v < n := by
  cases r with
  | refl => exact hu
  | tail _ h2 => exact h.lt2 _ h2

section
variable (n : Nat) (as : List (Nat × Nat))
noncomputable def led (p : Nat) : List Nat := (List.range n).filter fun v => rb as p v
noncomputable def part (p : Nat) : List Nat := (led n as p).filter fun j => decide (p ∈ led n as j)
noncomputable def partsF (m : Nat) : List (List Nat) := (List.range m).foldl (fun f k => if part n as k ∈ f then f else f ++ [part n as k]) []
noncomputable def parts : List (List Nat) := partsF n as n
noncomputable def above (p : Nat) : List Nat := (List.range n).filter fun k => decide (p ∈ led n as k) && !decide (k ∈ led n as p)
noncomputable def flow (k : Nat) (d : List Nat) (p : Nat) : Nat := (above n as p).foldl (fun g x => Nat.gcd g (d.getD x 0)) k
noncomputable def rest (k : Nat) (d : List Nat) (P : List Nat) : Nat := P.foldl (fun g x => Nat.gcd g (d.getD x 0)) (flow n as k d (P.getD 0 0))
noncomputable def mark (k : Nat) (d : List Nat) (P : List Nat) : Nat × Nat :=
  if P.length = 1 then (flow n as k d (P.getD 0 0), d.getD (P.getD 0 0) 0 % flow n as k d (P.getD 0 0)) else (flow n as k d (P.getD 0 0), rest n as k d P)
noncomputable def marks (k : Nat) (d : List Nat) : List (Nat × Nat) := (parts n as).map (mark n as k d)
end

section
variable {n : Nat} {as : List (Nat × Nat)}
theorem mem_led {p v : Nat} : v ∈ led n as p ↔ v < n ∧ R as p v := by
  unfold led
  rw [List.mem_filter, List.mem_range, rb_iff]
theorem mem_part {p j : Nat} (hp : p < n) : j ∈ part n as p ↔ j < n ∧ R as p j ∧ R as j p := by
  unfold part
  rw [List.mem_filter, mem_led, decide_eq_true_iff, mem_led]
  constructor
  · rintro ⟨⟨a, b⟩, _, c⟩; exact ⟨a, b, c⟩
  · rintro ⟨a, b, c⟩; exact ⟨⟨a, b⟩, hp, c⟩
theorem mem_above {p j : Nat} (hp : p < n) : j ∈ above n as p ↔ j < n ∧ R as j p ∧ ¬ R as p j := by
  unfold above
  rw [List.mem_filter, List.mem_range, Bool.and_eq_true, decide_eq_true_iff, Bool.not_eq_true', decide_eq_false_iff_not, mem_led, mem_led]
  constructor
  · rintro ⟨a, ⟨_, b⟩, c⟩; exact ⟨a, b, fun q => c ⟨a, q⟩⟩
  · rintro ⟨a, b, c⟩; exact ⟨a, ⟨hp, b⟩, fun q => c q.2⟩
theorem self_part {p : Nat} (hp : p < n) : p ∈ part n as p := (mem_part hp).mpr ⟨hp, .refl p, .refl p⟩
theorem part_nd (p : Nat) : (part n as p).Nodup := (List.nodup_range.filter _).filter _
theorem led_nd (p : Nat) : (led n as p).Nodup := List.nodup_range.filter _
theorem part_congr {p q : Nat} (hp : p < n) (hq : q < n) (h : q ∈ part n as p) : part n as q = part n as p := by
  obtain ⟨_, a, b⟩ := (mem_part hp).mp h
  unfold part
  have e : led n as q = led n as p := by
    unfold led
    refine List.filter_congr fun v _ => ?_
    rw [Bool.eq_iff_iff, rb_iff, rb_iff]
    exact ⟨fun r => a.trans r, fun r => b.trans r⟩
  rw [e]
  refine List.filter_congr fun v hv => ?_
  rw [decide_eq_decide, mem_led, mem_led]
  exact ⟨fun r => ⟨hp, r.2.trans b⟩, fun r => ⟨hq, r.2.trans a⟩⟩
theorem above_congr {p q : Nat} (hp : p < n) (hq : q < n) (h : q ∈ part n as p) : above n as q = above n as p := by
  obtain ⟨_, a, b⟩ := (mem_part hp).mp h
  unfold above
  refine List.filter_congr fun v _ => ?_
  have e1 : (p ∈ led n as v) ↔ (q ∈ led n as v) := by
    rw [mem_led, mem_led]
    exact ⟨fun r => ⟨hq, r.2.trans a⟩, fun r => ⟨hp, r.2.trans b⟩⟩
  have e2 : (v ∈ led n as p) ↔ (v ∈ led n as q) := by
    rw [mem_led, mem_led]
    exact ⟨fun r => ⟨r.1, b.trans r.2⟩, fun r => ⟨r.1, a.trans r.2⟩⟩
  rw [decide_eq_decide.mpr e1, decide_eq_decide.mpr e2]
theorem partsF_succ (m : Nat) : partsF n as (m + 1) = if part n as m ∈ partsF n as m then partsF n as m else partsF n as m ++ [part n as m] := by
  unfold partsF
  rw [List.range_succ, List.foldl_append]
  rfl
theorem mem_partsF {m : Nat} {P : List Nat} : P ∈ partsF n as m ↔ ∃ p, p < m ∧ P = part n as p := by
  induction m with
  | zero => simp [partsF]
  | succ m ih =>
    rw [partsF_succ]
    split
    · rename_i h
      rw [ih]
      constructor
      · rintro ⟨p, h1, h2⟩; exact ⟨p, by omega, h2⟩
      · rintro ⟨p, h1, h2⟩
        rcases Nat.lt_or_ge p m with q | q
        · exact ⟨p, q, h2⟩
        · have : p = m := by omega
          subst this
          rw [← h2] at h
          exact ih.mp h
    · rw [List.mem_append, ih, List.mem_singleton]
      constructor
      · rintro (⟨p, h1, h2⟩ | h)
        · exact ⟨p, by omega, h2⟩
        · exact ⟨m, by omega, h⟩
      · rintro ⟨p, h1, h2⟩
        rcases Nat.lt_or_ge p m with q | q
        · exact .inl ⟨p, q, h2⟩
        · have : p = m := by omega
          subst this
          exact .inr h2
theorem mem_parts {P : List Nat} : P ∈ parts n as ↔ ∃ p, p < n ∧ P = part n as p := mem_partsF
theorem partsF_nd (m : Nat) : (partsF n as m).Nodup := by
  induction m with
  | zero => simp [partsF]
  | succ m ih =>
    rw [partsF_succ]
    split
    · exact ih
    · rename_i h
      rw [List.nodup_append]
      refine ⟨ih, by simp, fun a ha b hb e => ?_⟩
      rw [List.mem_singleton] at hb
      subst hb; subst e
      exact h ha
theorem flatten_nd : ∀ {L : List (List Nat)}, L.Nodup → (∀ P ∈ L, P.Nodup) → (∀ P ∈ L, ∀ Q ∈ L, ∀ x, x ∈ P → x ∈ Q → P = Q) → L.flatten.Nodup
  | [], _, _, _ => by simp
  | P :: L, h1, h2, h3 => by
    obtain ⟨a, b⟩ := List.nodup_cons.mp h1
    rw [List.flatten_cons, List.nodup_append]
    refine ⟨h2 P List.mem_cons_self, flatten_nd b (fun Q hQ => h2 Q (List.mem_cons_of_mem _ hQ)) (fun Q hQ Q' hQ' => h3 Q (List.mem_cons_of_mem _ hQ) Q' (List.mem_cons_of_mem _ hQ')), fun x hx y hy e => ?_⟩
    subst e
    obtain ⟨Q, hQ, hy⟩ := List.mem_flatten.mp hy
    have := h3 P List.mem_cons_self Q (List.mem_cons_of_mem _ hQ) x hx hy
    subst this
    exact a hQ
/-- the parts hold at most n clocks together -/
theorem parts_len : ((parts n as).map List.length).sum ≤ n := by
  have h : (parts n as).flatten.Nodup := by
    refine flatten_nd (partsF_nd n) (fun P hP => ?_) (fun P hP Q hQ x hx hx' => ?_)
    · obtain ⟨p, _, rfl⟩ := mem_parts.mp hP
      exact part_nd p
    · obtain ⟨p, hp, rfl⟩ := mem_parts.mp hP
      obtain ⟨q, hq, rfl⟩ := mem_parts.mp hQ
      have hxn : x < n := ((mem_part hp).mp hx).1
      exact (part_congr hp hxn hx).symm.trans (part_congr hq hxn hx')
  have h2 := h.length_le_of_subset (l₂ := List.range n) (fun x hx => by
    obtain ⟨P, hP, hx⟩ := List.mem_flatten.mp hx
    obtain ⟨p, hp, rfl⟩ := mem_parts.mp hP
    exact List.mem_range.mpr ((mem_part hp).mp hx).1)
  rw [List.length_range, List.length_flatten] at h2
  exact h2

/-! ### divisors -/
theorem dvd_foldg {l : List Nat} {f : Nat → Nat} {g c : Nat} : c ∣ l.foldl (fun g x => Nat.gcd g (f x)) g ↔ c ∣ g ∧ ∀ x ∈ l, c ∣ f x := by
  induction l generalizing g with
  | nil => simp
  | cons a l ih =>
    rw [List.foldl_cons, ih, Nat.dvd_gcd_iff]
    constructor
    · rintro ⟨⟨a, b⟩, c⟩
      exact ⟨a, fun x hx => by rcases List.mem_cons.mp hx with rfl | h; exact b; exact c x h⟩
    · rintro ⟨a, b⟩
      exact ⟨⟨a, b _ List.mem_cons_self⟩, fun x hx => b x (List.mem_cons_of_mem _ hx)⟩
theorem eq_of_dvd {a b : Nat} (h : ∀ c, c ∣ a ↔ c ∣ b) : a = b := Nat.dvd_antisymm ((h a).mp (Nat.dvd_refl a)) ((h b).mpr (Nat.dvd_refl b))
variable {k : Nat} {d e : List Nat}
theorem dvd_flow {p c : Nat} : c ∣ flow n as k d p ↔ c ∣ k ∧ ∀ x ∈ above n as p, c ∣ d.getD x 0 := dvd_foldg
theorem flow_dvd {p : Nat} : flow n as k d p ∣ k := (dvd_flow.mp (Nat.dvd_refl _)).1
theorem flow_pos {p : Nat} (hk : 0 < k) : 0 < flow n as k d p := Nat.pos_of_dvd_of_pos flow_dvd hk
theorem dvd_rest {P : List Nat} {c : Nat} : c ∣ rest n as k d P ↔ c ∣ flow n as k d (P.getD 0 0) ∧ ∀ x ∈ P, c ∣ d.getD x 0 := dvd_foldg
theorem rest_pos {P : List Nat} (hk : 0 < k) : 0 < rest n as k d P := Nat.pos_of_dvd_of_pos (dvd_rest.mp (Nat.dvd_refl _)).1 (flow_pos hk)
theorem head_part {p : Nat} (hp : p < n) : (part n as p).getD 0 0 ∈ part n as p := by
  have h := self_part (as := as) hp
  cases e : part n as p with
  | nil => rw [e] at h; cases h
  | cons a l => simp
theorem part_len_pos {p : Nat} (hp : p < n) : 0 < (part n as p).length := List.length_pos_of_mem (self_part hp)
theorem flow_head {p : Nat} (hp : p < n) : flow n as k d ((part n as p).getD 0 0) = flow n as k d p := by
  have h := head_part (as := as) hp
  unfold flow
  rw [above_congr hp ((mem_part hp).mp h).1 h]
theorem marks_at (h : marks n as k d = marks n as k e) {p : Nat} (hp : p < n) : mark n as k d (part n as p) = mark n as k e (part n as p) := by
  have hm : part n as p ∈ parts n as := mem_parts.mpr ⟨p, hp, rfl⟩
  exact List.map_inj_left.mp h _ hm
end
end CA

namespace CA
/-! Steps, words, and what can come: equal marks exactly where a word leads -/

def stp (k : Nat) (d : List Nat) (a : Nat × Nat) : List Nat := d.set a.2 ((d.getD a.2 0 + d.getD a.1 0) % k)
def runw (k : Nat) (d : List Nat) (w : List (Nat × Nat)) : List Nat := w.foldl (stp k) d
structure VD (n k : Nat) (d : List Nat) : Prop where
  len : d.length = n
  lt : ∀ x ∈ d, x < k
theorem VD.get {n k : Nat} {d : List Nat} (h : VD n k d) {i : Nat} (hi : i < n) : d.getD i 0 < k := by
  have hl : i < d.length := by rw [h.len]; exact hi
  rw [List.getD_eq_getElem?_getD, List.getElem?_eq_getElem hl]
  exact h.lt _ (List.getElem_mem hl)
theorem getD_set {d : List Nat} {i j x : Nat} (hi : i < d.length) : (d.set i x).getD j 0 = if i = j then x else d.getD j 0 := by
  rw [List.getD_eq_getElem?_getD, List.getElem?_set, List.getD_eq_getElem?_getD]
  by_cases e : i = j
  · rw [if_pos e, if_pos e, if_pos hi]; rfl
  · rw [if_neg e, if_neg e]
theorem VD.set {n k : Nat} {d : List Nat} (h : VD n k d) {i x : Nat} (hx : x < k) : VD n k (d.set i x) :=
  ⟨by rw [List.length_set]; exact h.len, fun y hy => by
    rcases List.mem_or_eq_of_mem_set hy with q | q
    · exact h.lt y q
    · rw [q]; exact hx⟩
theorem VD.stp {n k : Nat} {d : List Nat} (h : VD n k d) (hk : 0 < k) (a : Nat × Nat) : VD n k (stp k d a) := h.set (Nat.mod_lt _ hk)
theorem VD.run {n k : Nat} (hk : 0 < k) : ∀ {w : List (Nat × Nat)} {d : List Nat}, VD n k d → VD n k (runw k d w)
  | [], _, h => h
  | a :: w, _, h => VD.run (w := w) hk (h.stp hk a)
theorem runw_app (k : Nat) (d : List Nat) (w v : List (Nat × Nat)) : runw k d (w ++ v) = runw k (runw k d w) v := by
  unfold runw; rw [List.foldl_append]
theorem ext_get {n k : Nat} {d e : List Nat} (hd : VD n k d) (he : VD n k e) (h : ∀ i, i < n → d.getD i 0 = e.getD i 0) : d = e := by
  refine List.ext_getElem (hd.len.trans he.len.symm) fun i h1 h2 => ?_
  have q := h i (by rw [← hd.len]; exact h1)
  rw [List.getD_eq_getElem?_getD, List.getD_eq_getElem?_getD, List.getElem?_eq_getElem h1, List.getElem?_eq_getElem h2] at q
  exact q

/-- a word of the web leads from d to e -/
def Rc (as : List (Nat × Nat)) (k : Nat) (d e : List Nat) : Prop := ∃ w, (∀ a ∈ w, a ∈ as) ∧ runw k d w = e
section
variable {n k : Nat} {as : List (Nat × Nat)} {d e f : List Nat}
theorem Rc.refl (d : List Nat) : Rc as k d d := ⟨[], fun _ h => (nomatch h), rfl⟩
theorem Rc.trans (a : Rc as k d e) (b : Rc as k e f) : Rc as k d f := by
  obtain ⟨w, h1, rfl⟩ := a
  obtain ⟨v, h2, rfl⟩ := b
  exact ⟨w ++ v, fun a ha => (List.mem_append.mp ha).elim (h1 a) (h2 a), runw_app _ _ _ _⟩
theorem Rc.one {a : Nat × Nat} (h : a ∈ as) : Rc as k d (stp k d a) := ⟨[a], fun b hb => by rw [List.mem_singleton.mp hb]; exact h, rfl⟩
theorem Rc.valid (hk : 0 < k) (hd : VD n k d) (h : Rc as k d e) : VD n k e := by
  obtain ⟨w, _, rfl⟩ := h
  exact VD.run hk hd
/-- j times the step by a -/
theorem stp_iter (W : VW n as) (hd : VD n k d) {a : Nat × Nat} (ha : a ∈ as) (j : Nat) : Rc as k d (d.set a.2 ((d.getD a.2 0 + j * d.getD a.1 0) % k)) := by
  have hv : a.2 < d.length := by rw [hd.len]; exact W.lt2 a ha
  induction j with
  | zero =>
    have : d.set a.2 ((d.getD a.2 0 + 0 * d.getD a.1 0) % k) = d := by
      rw [Nat.zero_mul, Nat.add_zero, Nat.mod_eq_of_lt (hd.get (W.lt2 a ha)), List.getD_eq_getElem?_getD, List.getElem?_eq_getElem hv]
      exact List.set_getElem_self hv
    rw [this]
    exact .refl d
  | succ j ih =>
    refine ih.trans ?_
    have e : d.set a.2 ((d.getD a.2 0 + (j + 1) * d.getD a.1 0) % k) = stp k (d.set a.2 ((d.getD a.2 0 + j * d.getD a.1 0) % k)) a := by
      unfold stp
      rw [getD_set hv, getD_set hv, if_pos rfl, if_neg (fun q => W.ne a ha q.symm), List.set_set]
      congr 1
      rw [Nat.add_mod ((d.getD a.2 0 + j * d.getD a.1 0) % k), Nat.mod_mod, ← Nat.add_mod, Nat.add_assoc, Nat.succ_mul]
    rw [e]
    exact .one ha
theorem stp_back (W : VW n as) (hk : 0 < k) (hd : VD n k d) {a : Nat × Nat} (ha : a ∈ as) : Rc as k (stp k d a) d := by
  have hv : a.2 < d.length := by rw [hd.len]; exact W.lt2 a ha
  have h := stp_iter W (hd.stp hk a) ha (k - 1)
  have e : (stp k d a).set a.2 (((stp k d a).getD a.2 0 + (k - 1) * (stp k d a).getD a.1 0) % k) = d := by
    unfold stp
    rw [getD_set hv, getD_set hv, if_pos rfl, if_neg (fun q => W.ne a ha q.symm), List.set_set]
    rw [Nat.add_mod ((d.getD a.2 0 + d.getD a.1 0) % k), Nat.mod_mod, ← Nat.add_mod]
    have q : d.getD a.2 0 + d.getD a.1 0 + (k - 1) * d.getD a.1 0 = d.getD a.2 0 + k * d.getD a.1 0 := by
      obtain ⟨j, rfl⟩ : ∃ j, k = j + 1 := ⟨k - 1, by omega⟩
      rw [Nat.add_sub_cancel, Nat.succ_mul]
      omega
    rw [q, Nat.add_mul_mod_self_left, Nat.mod_eq_of_lt (hd.get (W.lt2 a ha)), List.getD_eq_getElem?_getD, List.getElem?_eq_getElem hv]
    exact List.set_getElem_self hv
  rw [e] at h
  exact h
theorem Rc.symm (W : VW n as) (hk : 0 < k) (hd : VD n k d) (h : Rc as k d e) : Rc as k e d := by
  obtain ⟨w, hw, rfl⟩ := h
  induction w generalizing d with
  | nil => exact .refl d
  | cons a w ih =>
    have h1 := ih (hd.stp hk a) (fun b hb => hw b (List.mem_cons_of_mem _ hb))
    exact h1.trans (stp_back W hk hd (hw a List.mem_cons_self))

/-! ### no step changes a mark -/
theorem dvd_mod_iff {c k x : Nat} (h : c ∣ k) : c ∣ x % k ↔ c ∣ x := Nat.dvd_mod_iff h
theorem stp_dvd (W : VW n as) (hd : VD n k d) {a : Nat × Nat} (ha : a ∈ as) {c : Nat} (hc : c ∣ k) (h1 : c ∣ d.getD a.1 0) (x : Nat) : c ∣ (stp k d a).getD x 0 ↔ c ∣ d.getD x 0 := by
  have hv : a.2 < d.length := by rw [hd.len]; exact W.lt2 a ha
  unfold stp
  rw [getD_set hv]
  split
  · rename_i e
    subst e
    rw [dvd_mod_iff hc]
    exact (Nat.dvd_add_iff_left h1).symm
  · exact Iff.rfl
theorem stp_other (W : VW n as) (hd : VD n k d) {a : Nat × Nat} (ha : a ∈ as) {x : Nat} (hx : x ≠ a.2) : (stp k d a).getD x 0 = d.getD x 0 := by
  have hv : a.2 < d.length := by rw [hd.len]; exact W.lt2 a ha
  unfold stp
  rw [getD_set hv, if_neg (fun e => hx e.symm)]
/-- the sources of a step to a clock above p are above p -/
theorem src_above (W : VW n as) {a : Nat × Nat} (ha : a ∈ as) {p : Nat} (hp : p < n) (h : a.2 ∈ above n as p) : a.1 ∈ above n as p := by
  obtain ⟨_, h1, h2⟩ := (mem_above hp).mp h
  exact (mem_above hp).mpr ⟨W.lt1 a ha, (R.one ha).trans h1, fun q => h2 (q.trans (R.one ha))⟩
theorem src_part (W : VW n as) {a : Nat × Nat} (ha : a ∈ as) {p : Nat} (hp : p < n) (h : a.2 ∈ part n as p) : a.1 ∈ part n as p ∨ a.1 ∈ above n as p := by
  obtain ⟨_, h1, h2⟩ := (mem_part hp).mp h
  by_cases q : R as p a.1
  · exact .inl ((mem_part hp).mpr ⟨W.lt1 a ha, q, (R.one ha).trans h2⟩)
  · exact .inr ((mem_above hp).mpr ⟨W.lt1 a ha, (R.one ha).trans h2, q⟩)
theorem flow_stp (W : VW n as) (hd : VD n k d) {a : Nat × Nat} (ha : a ∈ as) {p : Nat} (hp : p < n) : flow n as k (stp k d a) p = flow n as k d p := by
  refine eq_of_dvd fun c => ?_
  rw [dvd_flow, dvd_flow]
  by_cases h : a.2 ∈ above n as p
  · have h1 := src_above W ha hp h
    constructor
    · rintro ⟨hc, q⟩
      have q1 := q _ h1
      rw [stp_other W hd ha (W.ne a ha)] at q1
      exact ⟨hc, fun x hx => (stp_dvd W hd ha hc q1 x).mp (q x hx)⟩
    · rintro ⟨hc, q⟩
      exact ⟨hc, fun x hx => (stp_dvd W hd ha hc (q _ h1) x).mpr (q x hx)⟩
  · constructor
    · rintro ⟨hc, q⟩
      refine ⟨hc, fun x hx => ?_⟩
      have := q x hx
      rw [stp_other W hd ha (fun e => h (e ▸ hx))] at this
      exact this
    · rintro ⟨hc, q⟩
      refine ⟨hc, fun x hx => ?_⟩
      rw [stp_other W hd ha (fun e => h (e ▸ hx))]
      exact q x hx
theorem rest_stp (W : VW n as) (hd : VD n k d) {a : Nat × Nat} (ha : a ∈ as) {p : Nat} (hp : p < n) : rest n as k (stp k d a) (part n as p) = rest n as k d (part n as p) := by
  refine eq_of_dvd fun c => ?_
  rw [dvd_rest, dvd_rest, flow_head hp, flow_head hp, flow_stp W hd ha hp]
  by_cases h : a.2 ∈ part n as p
  · have h1 := src_part W ha hp h
    constructor
    · rintro ⟨hf, q⟩
      obtain ⟨hc, hab⟩ := dvd_flow.mp hf
      have q1 : c ∣ d.getD a.1 0 := by
        rcases h1 with z | z
        · have := q _ z
          rw [stp_other W hd ha (W.ne a ha)] at this
          exact this
        · exact hab _ z
      exact ⟨hf, fun x hx => (stp_dvd W hd ha hc q1 x).mp (q x hx)⟩
    · rintro ⟨hf, q⟩
      obtain ⟨hc, hab⟩ := dvd_flow.mp hf
      have q1 : c ∣ d.getD a.1 0 := by
        rcases h1 with z | z
        · exact q _ z
        · exact hab _ z
      exact ⟨hf, fun x hx => (stp_dvd W hd ha hc q1 x).mpr (q x hx)⟩
  · constructor
    · rintro ⟨hf, q⟩
      refine ⟨hf, fun x hx => ?_⟩
      have := q x hx
      rw [stp_other W hd ha (fun e => h (e ▸ hx))] at this
      exact this
    · rintro ⟨hf, q⟩
      refine ⟨hf, fun x hx => ?_⟩
      rw [stp_other W hd ha (fun e => h (e ▸ hx))]
      exact q x hx
theorem part_one {p : Nat} (hp : p < n) (h : (part n as p).length = 1) : part n as p = [p] := by
  obtain ⟨x, hx⟩ := List.length_eq_one_iff.mp h
  have := self_part (as := as) hp
  rw [hx, List.mem_singleton] at this
  rw [hx, this]
theorem mark_stp (W : VW n as) (hd : VD n k d) {a : Nat × Nat} (ha : a ∈ as) {p : Nat} (hp : p < n) : mark n as k (stp k d a) (part n as p) = mark n as k d (part n as p) := by
  unfold mark
  split
  · rename_i h
    rw [flow_head hp, flow_head hp, flow_stp W hd ha hp]
    have e := part_one hp h
    congr 1
    rw [e]
    show (stp k d a).getD p 0 % _ = d.getD p 0 % _
    by_cases q : p = a.2
    · have hv : a.2 < d.length := by rw [hd.len]; exact W.lt2 a ha
      have h1 := src_part W ha hp (by rw [← q]; exact self_part hp)
      rw [e, List.mem_singleton] at h1
      have h2 : a.1 ∈ above n as p := h1.resolve_left (fun z => W.ne a ha (z.trans q))
      have h3 := (dvd_flow.mp (Nat.dvd_refl (flow n as k d p))).2 _ h2
      have h4 : flow n as k d p ∣ k := flow_dvd
      unfold stp
      rw [getD_set hv, if_pos q.symm, Nat.mod_mod_of_dvd _ h4, ← q, Nat.add_mod, Nat.mod_eq_zero_of_dvd h3, Nat.add_zero, Nat.mod_mod]
    · rw [stp_other W hd ha q]
  · rw [flow_head hp, flow_head hp, flow_stp W hd ha hp, rest_stp W hd ha hp]
theorem marks_stp (W : VW n as) (hd : VD n k d) {a : Nat × Nat} (ha : a ∈ as) : marks n as k (stp k d a) = marks n as k d := by
  unfold marks
  refine List.map_congr_left fun P hP => ?_
  obtain ⟨p, hp, rfl⟩ := mem_parts.mp hP
  exact mark_stp W hd ha hp
theorem marks_rc (W : VW n as) (hk : 0 < k) (hd : VD n k d) (h : Rc as k d e) : marks n as k e = marks n as k d := by
  obtain ⟨w, hw, rfl⟩ := h
  induction w generalizing d with
  | nil => rfl
  | cons a w ih => exact (ih (hd.stp hk a) (fun b hb => hw b (List.mem_cons_of_mem _ hb))).trans (marks_stp W hd (hw a List.mem_cons_self))
end
end CA

namespace CA
/-! All dials with the same marks can come from one another -/
section
variable {n k : Nat} {as : List (Nat × Nat)} {d e f : List Nat}

/-- add x at v -/
def addv (k : Nat) (d : List Nat) (v x : Nat) : List Nat := d.set v ((d.getD v 0 + x) % k)
theorem addv_mod (d : List Nat) (v x : Nat) : addv k d v (x % k) = addv k d v x := by
  unfold addv; rw [Nat.add_mod_mod]
theorem addv_zero (hd : VD n k d) {v : Nat} (hv : v < n) : addv k d v 0 = d := by
  have hl : v < d.length := by rw [hd.len]; exact hv
  unfold addv
  rw [Nat.add_zero, Nat.mod_eq_of_lt (hd.get hv), List.getD_eq_getElem?_getD, List.getElem?_eq_getElem hl]
  exact List.set_getElem_self hl
theorem addv_addv (hd : VD n k d) {v : Nat} (hv : v < n) (x y : Nat) : addv k (addv k d v x) v y = addv k d v (x + y) := by
  have hl : v < d.length := by rw [hd.len]; exact hv
  unfold addv
  rw [getD_set hl, if_pos rfl, List.set_set, Nat.mod_add_mod, Nat.add_assoc]
theorem addv_get (hd : VD n k d) {v : Nat} (hv : v < n) (x j : Nat) : (addv k d v x).getD j 0 = if v = j then (d.getD v 0 + x) % k else d.getD j 0 := by
  have hl : v < d.length := by rw [hd.len]; exact hv
  unfold addv
  rw [getD_set hl]
theorem VD.addv (hd : VD n k d) (hk : 0 < k) (v x : Nat) : VD n k (addv k d v x) := hd.set (Nat.mod_lt _ hk)

/-- a carry from u to v: its effect can come, from every dial -/
def Car (n : Nat) (as : List (Nat × Nat)) (k u v : Nat) : Prop := ∀ d, VD n k d → Rc as k d (addv k d v (d.getD u 0))
theorem Car.back (W : VW n as) (hk : 0 < k) {u v : Nat} (hv : v < n) (ne : u ≠ v) (h : Car n as k u v) (hd : VD n k d) : Rc as k d (addv k d v (k - d.getD u 0)) ∨ n ≤ u := by
  rcases Nat.lt_or_ge u n with hu | hu
  · left
    have hd' := hd.addv hk v (k - d.getD u 0)
    have q := h _ hd'
    rw [addv_get hd hv, if_neg (fun z => ne z.symm), addv_addv hd hv] at q
    have e1 : k - d.getD u 0 + d.getD u 0 = k := by have := hd.get hu; omega
    rw [e1, ← addv_mod d v k, Nat.mod_self, addv_zero hd hv] at q
    exact q.symm W hk hd'
  · exact .inr hu
theorem car_of (W : VW n as) (hk : 0 < k) {u v : Nat} (r : R as u v) (hu : u < n) (ne : u ≠ v) : Car n as k u v := by
  induction r with
  | refl => exact absurd rfl ne
  | tail r h ih =>
    rename_i w v
    intro d hd
    by_cases q : u = w
    · subst q
      exact Rc.one (d := d) h
    · have c1 : Car n as k u w := ih q
      have hw : w < n := W.lt1 _ h
      have hv : v < n := W.lt2 _ h
      have hwv : w ≠ v := W.ne _ h
      have c2 : Car n as k w v := fun d hd => Rc.one (d := d) h
      -- u to w, w to v, both undone
      have la := hd.get hu
      have lw := hd.get hw
      have lv := hd.get hv
      obtain ⟨d1, e1⟩ : ∃ d1, d1 = addv k d w (d.getD u 0) := ⟨_, rfl⟩
      have hd1 : VD n k d1 := e1 ▸ hd.addv hk w (d.getD u 0)
      have s1 : Rc as k d d1 := e1 ▸ c1 d hd
      have g1 : ∀ j, d1.getD j 0 = if w = j then (d.getD w 0 + d.getD u 0) % k else d.getD j 0 := fun j => by rw [e1, addv_get hd hw]
      obtain ⟨d2, e2⟩ : ∃ d2, d2 = addv k d1 v (d1.getD w 0) := ⟨_, rfl⟩
      have hd2 : VD n k d2 := e2 ▸ hd1.addv hk v (d1.getD w 0)
      have s2 : Rc as k d1 d2 := e2 ▸ c2 d1 hd1
      have g2 : ∀ j, d2.getD j 0 = if v = j then (d1.getD v 0 + d1.getD w 0) % k else d1.getD j 0 := fun j => by rw [e2, addv_get hd1 hv]
      obtain ⟨d3, e3⟩ : ∃ d3, d3 = addv k d2 w (k - d2.getD u 0) := ⟨_, rfl⟩
      have hd3 : VD n k d3 := e3 ▸ hd2.addv hk w (k - d2.getD u 0)
      have s3 : Rc as k d2 d3 := e3 ▸ (c1.back W hk hw q hd2).resolve_right (by omega)
      have g3 : ∀ j, d3.getD j 0 = if w = j then (d2.getD w 0 + (k - d2.getD u 0)) % k else d2.getD j 0 := fun j => by rw [e3, addv_get hd2 hw]
      obtain ⟨d4, e4⟩ : ∃ d4, d4 = addv k d3 v (k - d3.getD w 0) := ⟨_, rfl⟩
      have hd4 : VD n k d4 := e4 ▸ hd3.addv hk v (k - d3.getD w 0)
      have s4 : Rc as k d3 d4 := e4 ▸ (c2.back W hk hv hwv hd3).resolve_right (by omega)
      have g4 : ∀ j, d4.getD j 0 = if v = j then (d3.getD v 0 + (k - d3.getD w 0)) % k else d3.getD j 0 := fun j => by rw [e4, addv_get hd3 hv]
      have e : d4 = addv k d v (d.getD u 0) := by
        have w1 : d1.getD w 0 = (d.getD w 0 + d.getD u 0) % k := by rw [g1, if_pos rfl]
        have u2 : d2.getD u 0 = d.getD u 0 := by rw [g2, if_neg (fun z => ne z.symm), g1, if_neg (fun z => q z.symm)]
        have w2 : d2.getD w 0 = (d.getD w 0 + d.getD u 0) % k := by rw [g2, if_neg (fun z => hwv z.symm), w1]
        have v2 : d2.getD v 0 = (d.getD v 0 + (d.getD w 0 + d.getD u 0) % k) % k := by rw [g2, if_pos rfl, w1, g1, if_neg hwv]
        have w3 : d3.getD w 0 = d.getD w 0 := by
          rw [g3, if_pos rfl, w2, u2, Nat.mod_add_mod, show d.getD w 0 + d.getD u 0 + (k - d.getD u 0) = d.getD w 0 + k by omega, Nat.add_mod_right, Nat.mod_eq_of_lt lw]
        have v3 : d3.getD v 0 = (d.getD v 0 + (d.getD w 0 + d.getD u 0) % k) % k := by rw [g3, if_neg hwv, v2]
        refine ext_get hd4 (hd.addv hk v _) fun i hi => ?_
        rw [g4, addv_get hd hv]
        by_cases z1 : v = i
        · rw [if_pos z1, if_pos z1, v3, w3, Nat.add_mod_mod, Nat.mod_add_mod, show d.getD v 0 + (d.getD w 0 + d.getD u 0) + (k - d.getD w 0) = d.getD v 0 + d.getD u 0 + k by omega, Nat.add_mod_right]
        · rw [if_neg z1, if_neg z1, g3]
          by_cases z2 : w = i
          · subst z2
            rw [if_pos rfl, ← w3, g3, if_pos rfl]
          · rw [if_neg z2, g2, if_neg z1, g1, if_neg z2]
      rw [← e]
      exact ((s1.trans s2).trans s3).trans s4

/-- what may be added at v, as long as the others show what they do in d -/
def Add (n : Nat) (as : List (Nat × Nat)) (k : Nat) (d : List Nat) (v x : Nat) : Prop := ∀ y, Rc as k (addv k d v y) (addv k d v (y + x))
theorem Add.zero : Add n as k d v 0 := fun y => .refl _
theorem Add.add {v x y : Nat} (a : Add n as k d v x) (b : Add n as k d v y) : Add n as k d v (x + y) := fun z => by
  have := (a z).trans (b (z + x))
  rw [Nat.add_assoc] at this
  exact this
theorem Add.mul {v x : Nat} (a : Add n as k d v x) : ∀ j : Nat, Add n as k d v (j * x)
  | 0 => by rw [Nat.zero_mul]; exact .zero
  | j + 1 => by rw [Nat.succ_mul]; exact (Add.mul a j).add a
theorem Add.cong {v x y : Nat} (a : Add n as k d v x) (h : x % k = y % k) : Add n as k d v y := fun z => by
  have := a z
  rw [← addv_mod d v (z + x), Nat.add_mod, h, ← Nat.add_mod, addv_mod] at this
  exact this
theorem Add.of_car {u v : Nat} (hk : 0 < k) (hd : VD n k d) (hv : v < n) (ne : u ≠ v) (c : Car n as k u v) : Add n as k d v (d.getD u 0) := fun y => by
  have q := c _ (hd.addv hk v y)
  rw [addv_get hd hv, if_neg (fun z => ne z.symm), addv_addv hd hv] at q
  exact q
theorem Add.hour (v : Nat) : Add n as k d v k := (Add.zero).cong (by rw [Nat.zero_mod, Nat.mod_self])
theorem Add.neg {v x : Nat} (hk : 0 < k) (a : Add n as k d v x) : Add n as k d v ((k - 1) * x) := a.mul _
theorem Add.sub {v x y : Nat} (hk : 0 < k) (a : Add n as k d v x) (b : Add n as k d v y) (h : y ≤ x) : Add n as k d v (x - y) := by
  refine (a.add (b.neg hk)).cong ?_
  obtain ⟨j, rfl⟩ : ∃ j, k = j + 1 := ⟨k - 1, by omega⟩
  rw [Nat.add_sub_cancel]
  have : x + j * y = (x - y) + (j + 1) * y := by rw [Nat.succ_mul]; omega
  rw [this, Nat.add_mul_mod_self_left]
theorem Add.gcd {v : Nat} (hk : 0 < k) {x y : Nat} (a : Add n as k d v x) (b : Add n as k d v y) : Add n as k d v (Nat.gcd x y) := by
  induction x, y using Nat.gcd.induction with
  | H0 y => rw [Nat.gcd_zero_left]; exact b
  | H1 x y hx ih =>
    rw [Nat.gcd_rec]
    refine ih ?_ a
    have h := b.sub hk (a.mul (y / x)) (Nat.div_mul_le_self y x)
    have e : y - y / x * x = y % x := by have := Nat.div_add_mod' y x; omega
    rw [e] at h
    exact h
theorem Add.fold {v : Nat} (hk : 0 < k) {l : List Nat} {g : Nat} (a : Add n as k d v g) (h : ∀ x ∈ l, Add n as k d v (d.getD x 0)) : Add n as k d v (l.foldl (fun g x => Nat.gcd g (d.getD x 0)) g) := by
  induction l generalizing g with
  | nil => exact a
  | cons x l ih =>
    rw [List.foldl_cons]
    exact ih (a.gcd hk (h x List.mem_cons_self)) fun y hy => h y (List.mem_cons_of_mem _ hy)
theorem Add.go {v x : Nat} (hd : VD n k d) (hv : v < n) (a : Add n as k d v x) : Rc as k d (addv k d v x) := by
  have := a 0
  rw [addv_zero hd hv, Nat.zero_add] at this
  exact this
theorem Add.flow (W : VW n as) (hk : 0 < k) (hd : VD n k d) {p : Nat} (hp : p < n) : Add n as k d p (flow n as k d p) := by
  refine (Add.hour p).fold hk fun x hx => ?_
  obtain ⟨h1, h2, h3⟩ := (mem_above hp).mp hx
  have ne : x ≠ p := fun e => h3 (by rw [e]; exact .refl p)
  exact .of_car hk hd hp ne (car_of W hk h2 h1 ne)
/-- set v to y, if y differs from what it shows by a multiple of what may be added -/
theorem Add.set {v x y : Nat} (hk : 0 < k) (hd : VD n k d) (hv : v < n) (a : Add n as k d v x) (hy : y < k) (hxk : x ∣ k) (h : d.getD v 0 % x = y % x) : Rc as k d (d.set v y) := by
  -- y + k - d v is a multiple of x
  have hlt := hd.get hv
  have h2 : x ∣ y + k - d.getD v 0 := by
    have e1 : (d.getD v 0) % x = (y + k) % x := by rw [Nat.add_mod, Nat.mod_eq_zero_of_dvd hxk, Nat.add_zero, Nat.mod_mod]; exact h
    have e2 : d.getD v 0 ≤ y + k := by omega
    exact Nat.dvd_of_mod_eq_zero (Nat.sub_mod_eq_zero_of_mod_eq e1.symm)
  obtain ⟨j, hj⟩ := h2
  have a2 := (a.mul j).go hd hv
  rw [Nat.mul_comm, ← hj] at a2
  unfold addv at a2
  rw [show d.getD v 0 + (y + k - d.getD v 0) = y + k by omega, Nat.add_mod_right, Nat.mod_eq_of_lt hy] at a2
  exact a2

/-! ### a part of more clocks -/
theorem set2_get (hd : VD n k d) {p q : Nat} (hp : p < n) (hq : q < n) (ne : p ≠ q) (x y j : Nat) : ((d.set p x).set q y).getD j 0 = if q = j then y else if p = j then x else d.getD j 0 := by
  rw [getD_set (by rw [List.length_set, hd.len]; exact hq), getD_set (by rw [hd.len]; exact hp)]
theorem pair_gcd (W : VW n as) (hk : 0 < k) (hd : VD n k d) {p q : Nat} (hp : p < n) (hq : q < n) (ne : p ≠ q) (c1 : Car n as k p q) (c2 : Car n as k q p) :
    ∀ (m x y : Nat), x + y ≤ m → x < k → y < k → Rc as k ((d.set p x).set q y) ((d.set p (Nat.gcd x y)).set q 0) := by
  intro m
  induction m with
  | zero =>
    intro x y h hx hy
    have ex : x = 0 := by omega
    have ey : y = 0 := by omega
    subst ex; subst ey
    exact .refl _
  | succ m ih =>
    intro x y h hx hy
    have hv : ∀ x y, x < k → y < k → VD n k ((d.set p x).set q y) := fun x y hx hy => (hd.set hx).set hy
    have same : ∀ {x y x' y' : Nat}, x = x' → y = y' → Rc as k ((d.set p x).set q y) ((d.set p x').set q y') := fun e1 e2 => by rw [e1, e2]; exact .refl _
    -- p less q
    have sp : ∀ x y, x < k → y < k → 0 < y → Rc as k ((d.set p x).set q y) ((d.set p ((x + (k - y)) % k)).set q y) := fun x y hx hy h0 => by
      have h1 := (c2.back W hk hp (fun z => ne z.symm) (hv x y hx hy)).resolve_right (by omega)
      have e : addv k ((d.set p x).set q y) p (k - ((d.set p x).set q y).getD q 0) = (d.set p ((x + (k - y)) % k)).set q y := by
        refine ext_get ((hv x y hx hy).addv hk _ _) (hv _ _ (Nat.mod_lt _ hk) hy) fun i hi => ?_
        rw [addv_get (hv x y hx hy) hp, set2_get hd hp hq ne x y p, set2_get hd hp hq ne x y q, set2_get hd hp hq ne x y i, set2_get hd hp hq ne _ _ i, if_pos (rfl : q = q), if_neg (fun z : q = p => ne z.symm), if_pos (rfl : p = p)]
        by_cases z : p = i
        · subst z
          rw [if_pos rfl, if_neg (fun z => ne z.symm), if_pos rfl]
        · rw [if_neg z, if_neg z, if_neg z]
      rw [e] at h1
      exact h1
    have sq : ∀ x y, x < k → y < k → 0 < x → Rc as k ((d.set p x).set q y) ((d.set p x).set q ((y + (k - x)) % k)) := fun x y hx hy h0 => by
      have h1 := (c1.back W hk hq ne (hv x y hx hy)).resolve_right (by omega)
      have e : addv k ((d.set p x).set q y) q (k - ((d.set p x).set q y).getD p 0) = (d.set p x).set q ((y + (k - x)) % k) := by
        refine ext_get ((hv x y hx hy).addv hk _ _) (hv _ _ hx (Nat.mod_lt _ hk)) fun i hi => ?_
        rw [addv_get (hv x y hx hy) hq, set2_get hd hp hq ne x y p, set2_get hd hp hq ne x y q, set2_get hd hp hq ne x y i, set2_get hd hp hq ne _ _ i, if_pos (rfl : q = q), if_neg (fun z : q = p => ne z.symm), if_pos (rfl : p = p)]
        by_cases z : q = i
        · rw [if_pos z, if_pos z]
        · rw [if_neg z, if_neg z, if_neg z]
      rw [e] at h1
      exact h1
    have ap : ∀ x y, x < k → y < k → Rc as k ((d.set p x).set q y) ((d.set p ((x + y) % k)).set q y) := fun x y hx hy => by
      have h1 := c2 _ (hv x y hx hy)
      have e : addv k ((d.set p x).set q y) p (((d.set p x).set q y).getD q 0) = (d.set p ((x + y) % k)).set q y := by
        refine ext_get ((hv x y hx hy).addv hk _ _) (hv _ _ (Nat.mod_lt _ hk) hy) fun i hi => ?_
        rw [addv_get (hv x y hx hy) hp, set2_get hd hp hq ne x y p, set2_get hd hp hq ne x y q, set2_get hd hp hq ne x y i, set2_get hd hp hq ne _ _ i, if_pos (rfl : q = q), if_neg (fun z : q = p => ne z.symm), if_pos (rfl : p = p)]
        by_cases z : p = i
        · subst z
          rw [if_pos rfl, if_neg (fun z => ne z.symm), if_pos rfl]
        · rw [if_neg z, if_neg z, if_neg z]
      rw [e] at h1
      exact h1
    by_cases hy0 : y = 0
    · subst hy0
      rw [Nat.gcd_zero_right]
      exact .refl _
    by_cases hx0 : x = 0
    · subst hx0
      rw [Nat.gcd_zero_left]
      have h1 := ap 0 y hx hy
      have h2 := sq y y hy hy (by omega)
      refine (h1.trans (same (by rw [Nat.zero_add, Nat.mod_eq_of_lt hy]) rfl)).trans (h2.trans (same rfl ?_))
      rw [show y + (k - y) = k by omega, Nat.mod_self]
    by_cases hle : y ≤ x
    · have h1 := sp x y hx hy (by omega)
      have e1 : (x + (k - y)) % k = x - y := by rw [show x + (k - y) = (x - y) + k by omega, Nat.add_mod_right, Nat.mod_eq_of_lt (by omega)]
      rw [e1] at h1
      have h2 := ih (x - y) y (by omega) (by omega) hy
      have e2 : Nat.gcd (x - y) y = Nat.gcd x y := by
        have : Nat.gcd (x - y + y) y = Nat.gcd (x - y) y := Nat.gcd_add_self_left ..
        rw [← this, Nat.sub_add_cancel hle]
      rw [e2] at h2
      exact h1.trans h2
    · have h1 := sq x y hx hy (by omega)
      have e1 : (y + (k - x)) % k = y - x := by rw [show y + (k - x) = (y - x) + k by omega, Nat.add_mod_right, Nat.mod_eq_of_lt (by omega)]
      rw [e1] at h1
      have h2 := ih x (y - x) (by omega) hx (by omega)
      have e2 : Nat.gcd x (y - x) = Nat.gcd x y := by
        have : Nat.gcd x (y - x + x) = Nat.gcd x (y - x) := Nat.gcd_add_self_right ..
        rw [← this, Nat.sub_add_cancel (by omega)]
      rw [e2] at h2
      exact h1.trans h2
theorem gcd_lt {x y k : Nat} (hx : x < k) (hy : y < k) : Nat.gcd x y < k := by
  by_cases h : x = 0
  · rw [h, Nat.gcd_zero_left]; exact hy
  · exact Nat.lt_of_le_of_lt (Nat.gcd_le_left y (by omega)) hx
theorem many_gcd (W : VW n as) (hk : 0 < k) {p : Nat} (hp : p < n) : ∀ (qs : List Nat) (d : List Nat), VD n k d → qs.Nodup → (∀ q ∈ qs, q < n ∧ p ≠ q ∧ Car n as k p q ∧ Car n as k q p) →
    ∃ e, Rc as k d e ∧ e.getD p 0 = qs.foldl (fun g x => Nat.gcd g (d.getD x 0)) (d.getD p 0) ∧ (∀ q ∈ qs, e.getD q 0 = 0) ∧ ∀ i, i ∉ qs → i ≠ p → e.getD i 0 = d.getD i 0
  | [], d, _, _, _ => ⟨d, .refl d, rfl, fun _ h => (nomatch h), fun _ _ _ => rfl⟩
  | q :: qs, d, hd, nd, hq => by
    obtain ⟨n1, n2⟩ := List.nodup_cons.mp nd
    obtain ⟨q1, q2, q3, q4⟩ := hq q List.mem_cons_self
    have hx := hd.get hp
    have hy := hd.get q1
    have h1 := pair_gcd W hk hd hp q1 q2 q3 q4 _ _ _ (Nat.le_refl (d.getD p 0 + d.getD q 0)) hx hy
    have e1 : (d.set p (d.getD p 0)).set q (d.getD q 0) = d := by
      refine ext_get ((hd.set hx).set hy) hd fun i hi => ?_
      rw [set2_get hd hp q1 q2]
      split
      · rename_i z; rw [z]
      · split
        · rename_i z; rw [z]
        · rfl
    rw [e1] at h1
    have hd1 : VD n k ((d.set p (Nat.gcd (d.getD p 0) (d.getD q 0))).set q 0) := (hd.set (gcd_lt hx hy)).set hk
    obtain ⟨e, r, a1, a2, a3⟩ := many_gcd W hk hp qs _ hd1 n2 (fun x hx => hq x (List.mem_cons_of_mem _ hx))
    have gt := fun i => set2_get hd hp q1 q2 (Nat.gcd (d.getD p 0) (d.getD q 0)) 0 i
    refine ⟨e, h1.trans r, ?_, fun x hx => ?_, fun i hi hip => ?_⟩
    · rw [a1, gt p, if_neg (fun z => q2 z.symm), if_pos rfl, List.foldl_cons]
      have : ∀ (l : List Nat) (g : Nat), (∀ x ∈ l, x ≠ q ∧ x ≠ p) → l.foldl (fun g x => Nat.gcd g (((d.set p (Nat.gcd (d.getD p 0) (d.getD q 0))).set q 0).getD x 0)) g = l.foldl (fun g x => Nat.gcd g (d.getD x 0)) g := by
        intro l
        induction l with
        | nil => intro g _; rfl
        | cons y l ih =>
          intro g hl
          obtain ⟨z1, z2⟩ := hl y List.mem_cons_self
          rw [List.foldl_cons, List.foldl_cons, gt y, if_neg (fun z => z1 z.symm), if_neg (fun z => z2 z.symm), ih _ (fun x hx => hl x (List.mem_cons_of_mem _ hx))]
      exact this _ _ (fun x hx => ⟨fun z => n1 (z ▸ hx), fun z => (hq x (List.mem_cons_of_mem _ hx)).2.1 z.symm⟩)
    · rcases List.mem_cons.mp hx with rfl | hx
      · rw [a3 x n1 (fun z => q2 z.symm), gt x, if_pos rfl]
      · exact a2 x hx
    · have i1 : i ≠ q := fun z => hi (z ▸ List.mem_cons_self)
      rw [a3 i (fun z => hi (List.mem_cons_of_mem _ z)) hip, gt i, if_neg (fun z => i1 z.symm), if_neg (fun z => hip z.symm)]

/-- what each clock shows in the dial that all dials with these marks can come to -/
noncomputable def cnv (n : Nat) (as : List (Nat × Nat)) (k : Nat) (d : List Nat) (i : Nat) : Nat :=
  if (part n as i).length = 1 then (mark n as k d (part n as i)).2 else if i = (part n as i).getD 0 0 then (mark n as k d (part n as i)).2 % k else 0
theorem cnv_eq (h : marks n as k d = marks n as k e) {i : Nat} (hi : i < n) : cnv n as k d i = cnv n as k e i := by
  unfold cnv
  rw [marks_at h hi]
theorem canon_one (W : VW n as) (hk : 0 < k) (hd : VD n k d) {p : Nat} (hp : p < n) (h1 : (part n as p).length = 1) :
    ∃ e, Rc as k d e ∧ (∀ i ∈ part n as p, e.getD i 0 = cnv n as k d i) ∧ ∀ i, i ∉ part n as p → e.getD i 0 = d.getD i 0 := by
  have e1 := part_one hp h1
  have hl : p < d.length := by rw [hd.len]; exact hp
  have f1 := flow_pos (n := n) (as := as) (d := d) (p := p) hk
  have f2 : flow n as k d p ∣ k := flow_dvd
  have hy : d.getD p 0 % flow n as k d p < k := Nat.lt_of_lt_of_le (Nat.mod_lt _ f1) (Nat.le_of_dvd hk f2)
  refine ⟨d.set p (d.getD p 0 % flow n as k d p), (Add.flow W hk hd hp).set hk hd hp hy f2 (by rw [Nat.mod_mod]), fun i hi => ?_, fun i hi => ?_⟩
  · rw [e1, List.mem_singleton] at hi
    subst hi
    unfold cnv mark
    rw [if_pos h1, if_pos h1, getD_set hl, if_pos rfl, e1]
    rfl
  · rw [e1, List.mem_singleton] at hi
    rw [getD_set hl, if_neg (fun z => hi z.symm)]
theorem canon_more (W : VW n as) (hk : 0 < k) (hd : VD n k d) {p0 : Nat} (hp0 : p0 < n) (h1 : (part n as p0).length ≠ 1) :
    ∃ e, Rc as k d e ∧ (∀ i ∈ part n as p0, e.getD i 0 = cnv n as k d i) ∧ ∀ i, i ∉ part n as p0 → e.getD i 0 = d.getD i 0 := by
  -- p the first, q the second clock of the part
  have hlen := part_len_pos (as := as) hp0
  obtain ⟨p, q, l, eP⟩ : ∃ p q l, part n as p0 = p :: q :: l := by
    cases e : part n as p0 with
    | nil => rw [e] at hlen; exact absurd hlen (by simp)
    | cons p l =>
      cases l with
      | nil => rw [e] at h1; exact absurd rfl h1
      | cons q l => exact ⟨p, q, l, rfl⟩
  have nd := part_nd (n := n) (as := as) p0
  rw [eP] at nd
  obtain ⟨nd1, nd2⟩ := List.nodup_cons.mp nd
  have memP : ∀ x, x ∈ part n as p0 ↔ x = p ∨ x ∈ q :: l := fun x => by rw [eP, List.mem_cons]
  have inP : ∀ x ∈ part n as p0, x < n ∧ R as p0 x ∧ R as x p0 := fun x hx => (mem_part hp0).mp hx
  have pP : p ∈ part n as p0 := (memP p).mpr (.inl rfl)
  have qP : q ∈ part n as p0 := (memP q).mpr (.inr List.mem_cons_self)
  obtain ⟨hp, p1, p2⟩ := inP p pP
  obtain ⟨hq, q1, q2⟩ := inP q qP
  have hcar : ∀ x ∈ q :: l, x < n ∧ p ≠ x ∧ Car n as k p x ∧ Car n as k x p := fun x hx => by
    obtain ⟨x0, x1, x2⟩ := inP x ((memP x).mpr (.inr hx))
    have ne : p ≠ x := fun z => nd1 (z ▸ hx)
    exact ⟨x0, ne, car_of W hk (p2.trans x1) hp ne, car_of W hk (x2.trans p1) x0 (fun z => ne z.symm)⟩
  obtain ⟨e, r, a1, a2, a3⟩ := many_gcd W hk hp (q :: l) d hd nd2 hcar
  have he : VD n k e := r.valid hk hd
  have ht := he.get hp
  obtain ⟨_, npq, cpq, cqp⟩ := hcar q List.mem_cons_self
  have em : marks n as k e = marks n as k d := marks_rc W hk hd r
  -- r is what divides the flow and all that the part shows
  have er : rest n as k e (part n as p0) = rest n as k d (part n as p0) := by
    have := marks_at em hp0
    unfold mark at this
    rw [if_neg h1, if_neg h1] at this
    exact (Prod.mk.inj this).2
  have hR : rest n as k d (part n as p0) ∣ k := Nat.dvd_trans (dvd_rest.mp (Nat.dvd_refl _)).1 flow_dvd
  have hRt : rest n as k d (part n as p0) ∣ e.getD p 0 := er ▸ (dvd_rest.mp (Nat.dvd_refl (rest n as k e (part n as p0)))).2 p pP
  have hRle : rest n as k d (part n as p0) ≤ k := Nat.le_of_dvd hk hR
  have hRpos : 0 < rest n as k d (part n as p0) := rest_pos hk
  -- the value is the gcd of the flow and of what p shows now
  have eg : Nat.gcd (flow n as k e q) (e.getD p 0) = rest n as k d (part n as p0) := by
    rw [← er]
    refine eq_of_dvd fun c => ?_
    rw [Nat.dvd_gcd_iff, dvd_rest, flow_head hp0]
    have ef : flow n as k e q = flow n as k e p0 := by unfold flow; rw [above_congr hp0 hq qP]
    rw [ef]
    constructor
    · rintro ⟨z1, z2⟩
      refine ⟨z1, fun x hx => ?_⟩
      rcases (memP x).mp hx with rfl | hx
      · exact z2
      · rw [a2 x hx]; exact Nat.dvd_zero c
    · rintro ⟨z1, z2⟩
      exact ⟨z1, z2 p pP⟩
  have val : ∀ f : List Nat, f.getD p 0 = rest n as k d (part n as p0) % k → (∀ x ∈ q :: l, f.getD x 0 = 0) → ∀ i ∈ part n as p0, f.getD i 0 = cnv n as k d i := fun f f1 f2 i hi => by
    have ei : part n as i = part n as p0 := part_congr hp0 (inP i hi).1 hi
    unfold cnv
    rw [ei, if_neg h1]
    have eh : (part n as p0).getD 0 0 = p := by rw [eP]; rfl
    rw [eh]
    rcases (memP i).mp hi with rfl | hi
    · rw [if_pos rfl, f1]
      unfold mark
      rw [if_neg h1]
    · rw [if_neg (fun z : i = p => nd1 (by rw [← z]; exact hi)), f2 i hi]
  by_cases hRk : rest n as k d (part n as p0) = k
  · refine ⟨e, r, val e ?_ a2, fun i hi => a3 i (fun z => hi ((memP i).mpr (.inr z))) (fun z => hi (by rw [z]; exact pP))⟩
    rw [hRk, Nat.mod_self]
    rw [hRk] at hRt
    exact Nat.eq_zero_of_dvd_of_lt hRt ht
  · have hRlt : rest n as k d (part n as p0) < k := by omega
    have ad : Add n as k e q (rest n as k d (part n as p0)) := by
      rw [← eg]
      exact (Add.flow W hk he hq).gcd hk (.of_car hk he hq npq cpq)
    have s1 := ad.go he hq
    have hq0 : e.getD q 0 = 0 := a2 q List.mem_cons_self
    have e1 : addv k e q (rest n as k d (part n as p0)) = (e.set p (e.getD p 0)).set q (rest n as k d (part n as p0)) := by
      refine ext_get (he.addv hk _ _) ((he.set ht).set hRlt) fun i hi => ?_
      rw [addv_get he hq, set2_get he hp hq npq, hq0, Nat.zero_add, Nat.mod_eq_of_lt hRlt]
      split
      · rfl
      · split
        · rename_i z; rw [z]
        · rfl
    rw [e1] at s1
    have s2 := pair_gcd W hk he hp hq npq cpq cqp _ _ _ (Nat.le_refl _) ht hRlt
    have e2 : Nat.gcd (e.getD p 0) (rest n as k d (part n as p0)) = rest n as k d (part n as p0) := Nat.gcd_eq_right hRt
    rw [e2] at s2
    have gt := fun i => set2_get he hp hq npq (rest n as k d (part n as p0)) 0 i
    refine ⟨_, (r.trans s1).trans s2, val _ ?_ (fun x hx => ?_), fun i hi => ?_⟩
    · rw [gt, if_neg (fun z => npq z.symm), if_pos rfl, Nat.mod_eq_of_lt hRlt]
    · rw [gt]
      split
      · rfl
      · rw [if_neg (hcar x hx).2.1]
        exact a2 x hx
    · have i1 : i ≠ p := fun z => hi (by rw [z]; exact pP)
      have i2 : i ∉ q :: l := fun z => hi ((memP i).mpr (.inr z))
      have i3 : i ≠ q := fun z => i2 (z ▸ List.mem_cons_self)
      rw [gt, if_neg (fun z => i3 z.symm), if_neg (fun z => i1 z.symm)]
      exact a3 i i2 i1
theorem canon_part (W : VW n as) (hk : 0 < k) (hd : VD n k d) {p : Nat} (hp : p < n) :
    ∃ e, Rc as k d e ∧ (∀ i ∈ part n as p, e.getD i 0 = cnv n as k d i) ∧ ∀ i, i ∉ part n as p → e.getD i 0 = d.getD i 0 := by
  by_cases h : (part n as p).length = 1
  · exact canon_one W hk hd hp h
  · exact canon_more W hk hd hp h
theorem canon_upto (W : VW n as) (hk : 0 < k) (hd : VD n k d) : ∀ m, m ≤ n → ∃ e, Rc as k d e ∧ ∀ i, i < m → e.getD i 0 = cnv n as k d i
  | 0, _ => ⟨d, .refl d, fun _ h => by omega⟩
  | m + 1, h => by
    obtain ⟨e, r, q⟩ := canon_upto W hk hd m (by omega)
    have he := r.valid hk hd
    obtain ⟨f, r2, q1, q2⟩ := canon_part W hk he (p := m) (by omega)
    have em : marks n as k e = marks n as k d := marks_rc W hk hd r
    refine ⟨f, r.trans r2, fun i hi => ?_⟩
    by_cases z : i ∈ part n as m
    · rw [q1 i z, cnv_eq em (by omega)]
    · rw [q2 i z]
      have : i ≠ m := fun y => z (by rw [y]; exact self_part (by omega))
      exact q i (by omega)
/-- THE LAW OF THE MARKS -/
theorem rc_iff (W : VW n as) (hk : 0 < k) (hd : VD n k d) (he : VD n k e) : Rc as k d e ↔ marks n as k d = marks n as k e := by
  constructor
  · exact fun h => (marks_rc W hk hd h).symm
  · intro h
    obtain ⟨f, r1, q1⟩ := canon_upto W hk hd n (Nat.le_refl n)
    obtain ⟨g, r2, q2⟩ := canon_upto W hk he n (Nat.le_refl n)
    have : f = g := ext_get (r1.valid hk hd) (r2.valid hk he) fun i hi => by rw [q1 i hi, q2 i hi, cnv_eq h hi]
    subst this
    exact r1.trans (r2.symm W hk he)
end
end CA

namespace CA
/-! The search of the clocks that are led to -/
structure DInv (n : Nat) (as : List (Nat × Nat)) (p : Nat) (F Rw : List Nat) (here : Option Nat) (i : Nat) : Prop where
  nd : F.Nodup
  sub : ∀ x ∈ F, x < n ∧ R as p x
  self : p ∈ F
  rsub : ∀ x ∈ Rw, x ∈ F
  rnd : Rw.Nodup
  hin : ∀ h, here = some h → h ∈ F ∧ h ∉ Rw
  closed : ∀ u ∈ F, u ∉ Rw → here ≠ some u → ∀ v, (u, v) ∈ as → v ∈ F
  part : ∀ h, here = some h → ∀ j v, j < i → as[j]? = some (h, v) → v ∈ F
section
variable {n p : Nat} {as : List (Nat × Nat)} {F Rw : List Nat}
theorem DInv.start (hp : p < n) : DInv n as p [p] [p] none 0 :=
  ⟨by simp, fun x hx => by rw [List.mem_singleton.mp hx]; exact ⟨hp, .refl p⟩, by simp, fun x hx => hx, by simp, fun _ h => (nomatch h), fun u hu hr => absurd hu hr, fun _ h => (nomatch h)⟩
theorem DInv.len {h : Option Nat} {i : Nat} (I : DInv n as p F Rw h i) : F.length ≤ n := by
  have := I.nd.length_le_of_subset (l₂ := List.range n) (fun x hx => List.mem_range.mpr (I.sub x hx).1)
  rw [List.length_range] at this
  exact this
theorem DInv.pop {h : Nat} (I : DInv n as p F (Rw ++ [h]) none 0) : DInv n as p F Rw (some h) 0 := by
  have hh : h ∈ F := I.rsub h (by simp)
  obtain ⟨a, _, b⟩ := List.nodup_append.mp I.rnd
  refine ⟨I.nd, I.sub, I.self, fun x hx => I.rsub x (List.mem_append_left _ hx), a, fun x e => ?_, fun u hu hr hne v hv => ?_, fun _ _ j _ hj => by omega⟩
  · cases e
    exact ⟨hh, fun z => b h z h (by simp) rfl⟩
  · refine I.closed u hu (fun z => ?_) (by simp) v hv
    rcases List.mem_append.mp z with z | z
    · exact hr z
    · rw [List.mem_singleton] at z
      subst z
      exact hne rfl
/-- an arrow that brings nothing new -/
theorem DInv.skip {h i : Nat} {a : Nat × Nat} (I : DInv n as p F Rw (some h) i) (ha : as[i]? = some a) (k : ¬ (a.1 = h ∧ a.2 ∉ F)) : DInv n as p F Rw (some h) (i + 1) :=
  ⟨I.nd, I.sub, I.self, I.rsub, I.rnd, I.hin, I.closed, fun x e j v hj hv => by
    cases e
    rcases Nat.lt_or_ge j i with q | q
    · exact I.part h rfl j v q hv
    · have : j = i := by omega
      subst this
      rw [ha] at hv
      cases hv
      exact Classical.byContradiction fun z => k ⟨rfl, z⟩⟩
/-- an arrow to a clock that was not found -/
theorem DInv.take {h i : Nat} {a : Nat × Nat} (W : VW n as) (I : DInv n as p F Rw (some h) i) (ha : as[i]? = some a) (k1 : a.1 = h) (k2 : a.2 ∉ F) : DInv n as p (F ++ [a.2]) (Rw ++ [a.2]) (some h) (i + 1) := by
  have hm : a ∈ as := List.mem_of_getElem? ha
  obtain ⟨hF, hR⟩ := I.hin h rfl
  refine ⟨?_, fun x hx => ?_, List.mem_append_left _ I.self, fun x hx => ?_, ?_, fun x e => ?_, fun u hu hr hne v hv => ?_, fun x e j v hj hv => ?_⟩
  · rw [List.nodup_append]
    exact ⟨I.nd, by simp, fun x hx y hy e => k2 (by rw [List.mem_singleton] at hy; rw [← hy, ← e]; exact hx)⟩
  · rcases List.mem_append.mp hx with hx | hx
    · exact I.sub x hx
    · rw [List.mem_singleton.mp hx]
      refine ⟨W.lt2 a hm, .tail (I.sub h hF).2 ?_⟩
      rw [← k1]
      exact hm
  · rcases List.mem_append.mp hx with hx | hx
    · exact List.mem_append_left _ (I.rsub x hx)
    · exact List.mem_append_right _ hx
  · rw [List.nodup_append]
    exact ⟨I.rnd, by simp, fun x hx y hy e => k2 (by rw [List.mem_singleton] at hy; rw [← hy, ← e]; exact I.rsub x hx)⟩
  · cases e
    refine ⟨List.mem_append_left _ hF, fun z => ?_⟩
    rcases List.mem_append.mp z with z | z
    · exact hR z
    · rw [List.mem_singleton] at z
      exact W.ne a hm (k1.trans z)
  · rcases List.mem_append.mp hu with hu | hu
    · exact List.mem_append_left _ (I.closed u hu (fun z => hr (List.mem_append_left _ z)) hne v hv)
    · exact absurd (List.mem_append_right _ hu) hr
  · cases e
    rcases Nat.lt_or_ge j i with q | q
    · exact List.mem_append_left _ (I.part h rfl j v q hv)
    · have : j = i := by omega
      subst this
      rw [ha] at hv
      cases hv
      simp
theorem DInv.next {h : Nat} (I : DInv n as p F Rw (some h) as.length) : DInv n as p F Rw none 0 :=
  ⟨I.nd, I.sub, I.self, I.rsub, I.rnd, fun _ e => (nomatch e), fun u hu hr _ v hv => by
    by_cases e : u = h
    · subst e
      obtain ⟨j, hj, ej⟩ := List.getElem_of_mem hv
      exact I.part u rfl j v hj (by rw [List.getElem?_eq_getElem hj, ej])
    · exact I.closed u hu hr (fun z => e (Option.some.inj z).symm) v hv, fun _ e => (nomatch e)⟩
theorem DInv.done (I : DInv n as p F [] none 0) : ∀ x, x ∈ F ↔ x ∈ led n as p := fun x => by
  have key : ∀ y, R as p y → y ∈ F := fun y r => by
    induction r with
    | refl => exact I.self
    | tail r h ih => exact I.closed _ ih (fun z => (nomatch z)) (by simp) _ h
  rw [mem_led]
  exact ⟨fun h => I.sub x h, fun h => key x h.2⟩
/-- sorted: the list of the clocks led to -/
theorem DInv.sorted (I : DInv n as p F [] none 0) {ns : List Int} (hp : ns.Perm (F.map fun x : Nat => (x : Int))) (hs : ns.Pairwise (· ≤ ·)) : ns = (led n as p).map fun x : Nat => (x : Int) := by
  have e : F.Perm (led n as p) := (List.perm_ext_iff_of_nodup I.nd (led_nd p)).mpr I.done
  refine List.Perm.eq_of_pairwise (le := fun a b : Int => a ≤ b) (fun a b _ _ h1 h2 => by omega) hs ?_ (hp.trans (e.map _))
  rw [List.pairwise_map]
  refine List.Pairwise.imp (R := fun a b : Nat => a < b) (fun h => by omega) ?_
  exact List.Pairwise.filter _ List.pairwise_lt_range
end
end CA

/-! Distances; the words' order -/
namespace CA
section
variable {α : Type} {E : α → α → Prop} {s : α}
/-- a walk of j steps from s -/
def Wk (E : α → α → Prop) (s : α) : Nat → α → Prop
  | 0, e => e = s
  | j + 1, e => ∃ p, Wk E s j p ∧ E p e
/-- the least number of steps -/
def Dst (E : α → α → Prop) (s : α) (e : α) (j : Nat) : Prop := Wk E s j e ∧ ∀ i, i < j → ¬ Wk E s i e
theorem Wk.dst : ∀ {j : Nat} {e : α}, Wk E s j e → ∃ i, i ≤ j ∧ Dst E s e i := by
  intro j
  induction j using Nat.strongRecOn with
  | _ j ih =>
    intro e h
    by_cases c : ∃ i, i < j ∧ Wk E s i e
    · obtain ⟨i, h1, h2⟩ := c
      obtain ⟨i', h3, h4⟩ := ih i h1 h2
      exact ⟨i', by omega, h4⟩
    · exact ⟨j, Nat.le_refl j, h, fun i hi hw => c ⟨i, hi, hw⟩⟩
theorem Dst.uniq {e : α} {i j : Nat} (a : Dst E s e i) (b : Dst E s e j) : i = j := by
  rcases Nat.lt_trichotomy i j with h | h | h
  · exact absurd a.1 (b.2 i h)
  · exact h
  · exact absurd b.1 (a.2 j h)
theorem Dst.zero : Dst E s s 0 := ⟨rfl, fun i hi => absurd hi (Nat.not_lt_zero i)⟩
theorem Dst.eq0 {e : α} (h : Dst E s e 0) : e = s := h.1
/-- one step back -/
theorem Dst.pred {e : α} {j : Nat} (h : Dst E s e (j + 1)) : ∃ p, Dst E s p j ∧ E p e := by
  obtain ⟨p, hp, he⟩ := h.1
  obtain ⟨i, hi, hd⟩ := hp.dst
  rcases Nat.lt_or_ge i j with c | c
  · exact absurd ⟨p, hd.1, he⟩ (h.2 (i + 1) (by omega))
  · have : i = j := by omega
    subst this
    exact ⟨p, hd, he⟩
theorem Dst.next {p e : α} {j : Nat} (h : Dst E s p j) (he : E p e) : ∃ i, i ≤ j + 1 ∧ Dst E s e i := Wk.dst ⟨p, h.1, he⟩
theorem Dst.down {e : α} : ∀ {j : Nat}, Dst E s e j → ∀ i, i ≤ j → ∃ p, Dst E s p i
  | 0, h, i, hi => ⟨e, by have : i = 0 := by omega
                          subst this; exact h⟩
  | j + 1, h, i, hi => by
    rcases Nat.lt_or_ge i (j + 1) with c | c
    · obtain ⟨p, hp, _⟩ := h.pred
      exact hp.down i (by omega)
    · have : i = j + 1 := by omega
      subst this
      exact ⟨e, h⟩
/-- between the turns of the two inner loops -/
structure BI (E : α → α → Prop) (s : α) (L : Nat) (F : List (α × Nat)) (M : List α) : Prop where
  nd : (F.map (·.1)).Nodup
  sound : ∀ p ∈ F, Dst E s p.1 p.2 ∧ p.2 ≤ L + 1
  full : ∀ e j, j ≤ L → Dst E s e j → (e, j) ∈ F
  more : ∀ e, e ∈ M ↔ (e, L + 1) ∈ F
  len : F.length ≥ L + 1 + M.length
/-- between the turns of the outer loop -/
structure LI (E : α → α → Prop) (s : α) (L : Nat) (F : List (α × Nat)) (rows : List α) : Prop where
  nd : (F.map (·.1)).Nodup
  sound : ∀ p ∈ F, Dst E s p.1 p.2 ∧ p.2 ≤ L
  full : ∀ e j, j ≤ L → Dst E s e j → (e, j) ∈ F
  mem : ∀ e, e ∈ rows ↔ Dst E s e L
  len : rows ≠ [] → L + 1 ≤ F.length
  lt : ∀ p ∈ F, p.2 < F.length
theorem LI.start : LI E s 0 [(s, 0)] [s] where
  nd := by simp
  sound := fun p hp => by rw [List.mem_singleton.mp hp]; exact ⟨.zero, Nat.le_refl 0⟩
  full := fun e j hj h => by
    have : j = 0 := by omega
    subst this
    rw [h.eq0]
    exact List.mem_singleton.mpr rfl
  mem := fun e => ⟨fun h => by rw [List.mem_singleton.mp h]; exact .zero, fun h => List.mem_singleton.mpr h.eq0⟩
  len := fun _ => Nat.le_refl 1
  lt := fun p hp => by rw [List.mem_singleton.mp hp]; exact Nat.lt_add_one 0
theorem LI.opened {L : Nat} {F : List (α × Nat)} {rows : List α} (h : LI E s L F rows) (ne : rows ≠ []) : BI E s L F [] where
  nd := h.nd
  sound := fun p hp => ⟨(h.sound p hp).1, Nat.le_succ_of_le (h.sound p hp).2⟩
  full := h.full
  more := fun e => ⟨fun z => (nomatch z), fun z => by have : L + 1 ≤ L := (h.sound _ z).2; omega⟩
  len := h.len ne
theorem mem_fst {F : List (α × Nat)} {e : α} : e ∈ F.map (·.1) ↔ ∃ j, (e, j) ∈ F :=
  ⟨fun h => by obtain ⟨p, hp, rfl⟩ := List.mem_map.mp h; exact ⟨p.2, hp⟩, fun ⟨j, h⟩ => List.mem_map.mpr ⟨(e, j), h, rfl⟩⟩
theorem BI.at {L : Nat} {F : List (α × Nat)} {M : List α} (h : BI E s L F M) {e : α} {j : Nat} (hj : j ≤ L) (d : Dst E s e j) : (e, j) ∈ F := h.full e j hj d
theorem BI.add {L : Nat} {F : List (α × Nat)} {M : List α} (h : BI E s L F M) {p e : α} (hp : Dst E s p L) (he : E p e) (hn : e ∉ F.map (·.1)) : BI E s L (F ++ [(e, L + 1)]) (M ++ [e]) := by
  have de : Dst E s e (L + 1) := by
    obtain ⟨i, hi, d⟩ := hp.next he
    rcases Nat.lt_or_ge i (L + 1) with c | c
    · exact absurd (mem_fst.mpr ⟨i, h.full e i (by omega) d⟩) hn
    · have : i = L + 1 := by omega
      subst this
      exact d
  refine ⟨?_, fun q hq => ?_, fun x j hj d => List.mem_append_left _ (h.full x j hj d), fun x => ?_, ?_⟩
  · rw [List.map_append, List.nodup_append]
    refine ⟨h.nd, by simp, fun a ha b hb => ?_⟩
    rw [List.mem_singleton.mp hb]
    intro z
    rw [z] at ha
    exact hn ha
  · rcases List.mem_append.mp hq with hq | hq
    · exact h.sound q hq
    · rw [List.mem_singleton.mp hq]
      exact ⟨de, Nat.le_refl _⟩
  · rw [List.mem_append, List.mem_append, h.more x, List.mem_singleton, List.mem_singleton]
    constructor
    · rintro (z | z)
      · exact .inl z
      · exact .inr (by rw [z])
    · rintro (z | z)
      · exact .inl z
      · exact .inr (Prod.mk.inj z).1
  · have := h.len
    rw [List.length_append, List.length_append]
    simp only [List.length_singleton]
    omega
/-- all next ones are in -/
theorem BI.close {L : Nat} {F : List (α × Nat)} {M : List α} (h : BI E s L F M) (all : ∀ p e, Dst E s p L → E p e → e ∈ F.map (·.1)) : LI E s (L + 1) F M := by
  have full : ∀ e, Dst E s e (L + 1) → (e, L + 1) ∈ F := fun e d => by
    obtain ⟨p, hp, he⟩ := d.pred
    obtain ⟨j, hj⟩ := mem_fst.mp (all p e hp he)
    have := (h.sound _ hj).1.uniq d
    rw [← this]
    exact hj
  refine ⟨h.nd, h.sound, fun e j hj d => ?_, fun e => ?_, fun ne => ?_, fun p hp => ?_⟩
  · rcases Nat.lt_or_ge j (L + 1) with c | c
    · exact h.full e j (by omega) d
    · have : j = L + 1 := by omega
      subst this
      exact full e d
  · rw [h.more e]
    exact ⟨fun z => (h.sound _ z).1, full e⟩
  · have := h.len
    have : 0 < M.length := List.length_pos_iff.mpr ne
    omega
  · have h1 := h.len
    have h2 := (h.sound p hp).2
    rcases Nat.lt_or_ge p.2 (L + 1) with c | c
    · omega
    · have e : p.2 = L + 1 := by omega
      have : p.1 ∈ M := (h.more p.1).mpr (by rw [← e]; exact hp)
      have := List.length_pos_of_mem this
      omega
/-- no more: all is found -/
theorem LI.done {L : Nat} {F : List (α × Nat)} (h : LI E s L F []) (e : α) (j : Nat) : (e, j) ∈ F ↔ Dst E s e j := by
  refine ⟨fun z => (h.sound _ z).1, fun d => ?_⟩
  rcases Nat.lt_or_ge j (L + 1) with c | c
  · exact h.full e j (by omega) d
  · obtain ⟨p, hp⟩ := d.down L (by omega)
    exact absurd ((h.mem p).mpr hp) (fun z => nomatch z)
end
/-! ### the dials of n clocks -/
def alld (k : Nat) : Nat → List (List Nat)
  | 0 => [[]]
  | n + 1 => (List.range k).flatMap fun x => (alld k n).map (x :: ·)
theorem alld_len (k : Nat) : ∀ n, (alld k n).length = k ^ n
  | 0 => rfl
  | n + 1 => by
    show ((List.range k).flatMap fun x => (alld k n).map (x :: ·)).length = _
    rw [List.length_flatMap]
    simp only [List.length_map, alld_len k n, List.map_const', List.sum_replicate_nat, List.length_range]
    rw [Nat.pow_succ, Nat.mul_comm]
theorem mem_alld {k : Nat} : ∀ {n : Nat} {d : List Nat}, d.length = n → (∀ x ∈ d, x < k) → d ∈ alld k n
  | 0, [], _, _ => List.mem_singleton.mpr rfl
  | n + 1, x :: d, h, hx => List.mem_flatMap.mpr ⟨x, List.mem_range.mpr (hx x List.mem_cons_self), List.mem_map.mpr ⟨d, mem_alld (by simpa using h) (fun y hy => hx y (List.mem_cons_of_mem _ hy)), rfl⟩⟩
theorem dials_le {n k : Nat} {L : List (List Nat)} (nd : L.Nodup) (h : ∀ d ∈ L, VD n k d) : L.length ≤ k ^ n := by
  rw [← alld_len]
  exact nd.length_le_of_subset fun d hd => mem_alld (h d hd).len (h d hd).lt
/-! ### edges -/
abbrev Ar := Nat × Nat
def Ef (as : List Ar) (k : Nat) (d e : List Nat) : Prop := ∃ a ∈ as, e = stp k d a
def bck (k : Nat) (d : List Nat) (a : Ar) : List Nat := d.set a.2 ((d.getD a.2 0 + k - d.getD a.1 0) % k)
def Eb' (as : List Ar) (k : Nat) (d e : List Nat) : Prop := ∃ a ∈ as, e = bck k d a
theorem VD.bck {n k : Nat} {d : List Nat} (h : VD n k d) (hk : 0 < k) (a : Ar) : VD n k (bck k d a) := h.set (Nat.mod_lt _ hk)
section
variable {n k : Nat} {as : List Ar} {d e : List Nat}
theorem Wk.vdf (hk : 0 < k) (hd : VD n k d) : ∀ {j : Nat} {e : List Nat}, Wk (Ef as k) d j e → VD n k e
  | 0, _, h => by rw [h]; exact hd
  | j + 1, _, ⟨p, hp, a, _, h⟩ => by rw [h]; exact (Wk.vdf hk hd hp).stp hk a
theorem Wk.vdb (hk : 0 < k) (hd : VD n k d) : ∀ {j : Nat} {e : List Nat}, Wk (Eb' as k) d j e → VD n k e
  | 0, _, h => by rw [h]; exact hd
  | j + 1, _, ⟨p, hp, a, _, h⟩ => by rw [h]; exact (Wk.vdb hk hd hp).bck hk a
/-- a word of j arrows -/
theorem wk_word : ∀ {j : Nat} {e : List Nat}, Wk (Ef as k) d j e ↔ ∃ w, (∀ a ∈ w, a ∈ as) ∧ w.length = j ∧ runw k d w = e
  | 0, e => ⟨fun h => ⟨[], fun _ z => (nomatch z), rfl, h.symm⟩, fun ⟨w, _, h1, h2⟩ => by
      have : w = [] := List.length_eq_zero_iff.mp h1
      rw [this] at h2
      exact h2.symm⟩
  | j + 1, e => by
    constructor
    · rintro ⟨p, hp, a, ha, rfl⟩
      obtain ⟨w, h1, h2, rfl⟩ := wk_word.mp hp
      refine ⟨w ++ [a], fun b hb => ?_, by simp [h2], by rw [runw_app]; rfl⟩
      rcases List.mem_append.mp hb with hb | hb
      · exact h1 b hb
      · rw [List.mem_singleton.mp hb]; exact ha
    · rintro ⟨w, h1, h2, rfl⟩
      have ne : w ≠ [] := fun z => by rw [z] at h2; simp at h2
      have ew := List.dropLast_concat_getLast ne
      refine ⟨runw k d w.dropLast, wk_word.mpr ⟨w.dropLast, fun a ha => h1 a (List.dropLast_subset w ha), by rw [List.length_dropLast]; omega, rfl⟩, w.getLast ne, h1 _ (List.getLast_mem ne), ?_⟩
      have : runw k d w = runw k d (w.dropLast ++ [w.getLast ne]) := by rw [ew]
      rw [this, runw_app]
      rfl
theorem bck_iff (W : VW n as) (hd : VD n k d) (he : VD n k e) {a : Ar} (ha : a ∈ as) : e = bck k d a ↔ d = stp k e a := by
  have l1 := W.lt1 _ ha
  have l2 := W.lt2 _ ha
  have ne := W.ne _ ha
  have b1 := hd.get l1
  have b2 := hd.get l2
  have c1 := he.get l1
  have c2 := he.get l2
  have k0 : 0 < k := by omega
  constructor
  · intro h
    have g1 : e.getD a.1 0 = d.getD a.1 0 := by rw [h]; unfold bck; rw [getD_set (by rw [hd.len]; exact l2), if_neg (fun z => ne z.symm)]
    have g2 : e.getD a.2 0 = (d.getD a.2 0 + k - d.getD a.1 0) % k := by rw [h]; unfold bck; rw [getD_set (by rw [hd.len]; exact l2), if_pos rfl]
    refine ext_get hd (he.stp k0 a) fun i hi => ?_
    unfold stp
    rw [getD_set (by rw [he.len]; exact l2)]
    split
    · next q =>
      subst q
      rw [g1, g2, Nat.mod_add_mod, Nat.sub_add_cancel (by omega), Nat.add_mod_right, Nat.mod_eq_of_lt b2]
    · next q =>
      rw [h]; unfold bck
      rw [getD_set (by rw [hd.len]; exact l2), if_neg q]
  · intro h
    have g1 : d.getD a.1 0 = e.getD a.1 0 := by rw [h]; unfold stp; rw [getD_set (by rw [he.len]; exact l2), if_neg (fun z => ne z.symm)]
    have g2 : d.getD a.2 0 = (e.getD a.2 0 + e.getD a.1 0) % k := by rw [h]; unfold stp; rw [getD_set (by rw [he.len]; exact l2), if_pos rfl]
    refine ext_get he (hd.bck k0 a) fun i hi => ?_
    unfold bck
    rw [getD_set (by rw [hd.len]; exact l2)]
    split
    · next q =>
      subst q
      rw [g1, g2, Nat.add_sub_assoc (by omega), Nat.mod_add_mod, Nat.add_assoc, Nat.add_comm (e.getD a.1 0), Nat.sub_add_cancel (by omega), Nat.add_mod_right, Nat.mod_eq_of_lt c2]
    · next q =>
      rw [h]; unfold stp
      rw [getD_set (by rw [he.len]; exact l2), if_neg q]
/-- a word that leads to d, read from its far end -/
theorem wkb_word (W : VW n as) (hk : 0 < k) (hd : VD n k d) : ∀ {j : Nat} {e : List Nat}, VD n k e → (Wk (Eb' as k) d j e ↔ ∃ w, (∀ a ∈ w, a ∈ as) ∧ w.length = j ∧ runw k e w = d)
  | 0, e, _ => ⟨fun h => ⟨[], fun _ z => (nomatch z), rfl, h⟩, fun ⟨w, _, h1, h2⟩ => by
      have : w = [] := List.length_eq_zero_iff.mp h1
      rw [this] at h2
      exact h2⟩
  | j + 1, e, he => by
    constructor
    · rintro ⟨p, hp, a, ha, h⟩
      have hpv := Wk.vdb hk hd hp
      obtain ⟨w, h1, h2, h3⟩ := (wkb_word W hk hd hpv).mp hp
      have := (bck_iff W hpv he ha).mp h
      refine ⟨a :: w, fun b hb => ?_, by simp [h2], by show runw k (stp k e a) w = d; rw [← this, h3]⟩
      rcases List.mem_cons.mp hb with rfl | hb
      · exact ha
      · exact h1 b hb
    · rintro ⟨w, h1, h2, h3⟩
      match w, h1, h2, h3 with
      | a :: w, h1, h2, h3 =>
        have ha := h1 a List.mem_cons_self
        have hv := he.stp hk a
        refine ⟨stp k e a, (wkb_word W hk hd hv).mpr ⟨w, fun b hb => h1 b (List.mem_cons_of_mem _ hb), by simpa using h2, h3⟩, a, ha, (bck_iff W hv he ha).mpr rfl⟩
end
end CA

/-! Own words over the hand layer: what a value is, and rules of one's own -/
namespace CK
open PySem PySem.Spec PyProof.Rows L2

/-! ### heaps -/
abbrev Ex := Same
theorem Ex.mut {H G : Hp} {b : Addr} {o : HO} (kept : Ex H G) (free : H b = none) : Ex H (upd G b o) := by
  intro c x there
  have apart := ne_of_none there free
  rw [upd_ne apart]
  exact kept c x there
theorem Ex.new {H : Hp} {b : Addr} {o : HO} (free : H b = none) : Ex H (upd H b o) := Ex.mut (Same.refl H) free
/-- all but r is kept -/
def Eb (r : Addr) (H H' : Hp) : Prop := ∀ b o, b ≠ r → H b = some o → H' b = some o
theorem Eb.of {r : Addr} {H H' : Hp} (e : Ex H H') : Eb r H H' := fun b o _ h => e b o h
theorem Eb.refl (r : Addr) (H : Hp) : Eb r H H := fun _ _ _ h => h
theorem Eb.trans {r : Addr} {H H1 H2 : Hp} (a : Eb r H H1) (b : Eb r H1 H2) : Eb r H H2 := fun c o n h => b c o n (a c o n h)
theorem Eb.put {r : Addr} {H : Hp} {o : HO} : Eb r H (upd H r o) := fun b o n h => by
  rw [upd_ne n]; exact h
theorem Eb.ex {r : Addr} {H0 H H' : Hp} (e : Ex H0 H) (n : H0 r = none) (b : Eb r H H') : Ex H0 H' := fun a o h => b a o (ne_of_none h n) (e a o h)

/-! ### values -/
/-- v is a tuple of xs -/
def IsT (H : Hp) (v : V) (xs : List V) : Prop := ∃ a, v = .ref a ∧ H a = some (.tup xs)
theorem IsT.ex {H H' : Hp} {v : V} {xs : List V} (h : IsT H v xs) (e : Ex H H') : IsT H' v xs := let ⟨a, p, q⟩ := h; ⟨a, p, e _ _ q⟩
/-- tuples stay -/
def Tm (H H' : Hp) : Prop := ∀ a xs, H a = some (.tup xs) → H' a = some (.tup xs)
theorem Tm.refl (H : Hp) : Tm H H := fun _ _ h => h
theorem Tm.trans {H H1 H2 : Hp} (a : Tm H H1) (b : Tm H1 H2) : Tm H H2 := fun c xs h => b c xs (a c xs h)
theorem Tm.of {H H' : Hp} (e : Ex H H') : Tm H H' := fun a _ h => e a _ h
/-- the object at r is none of them -/
theorem Tm.ofEb {r : Addr} {H H' : Hp} {o : HO} (e : Eb r H H') (h : H r = some o) (n : ∀ xs, o ≠ .tup xs) : Tm H H' := fun a xs ha => e a _ (fun q => by rw [q, h] at ha; exact n xs (Option.some.inj ha)) ha
theorem Tm.put {H : Hp} {r : Addr} {o u : HO} (h : H r = some o) (n : ∀ xs, o ≠ .tup xs) : Tm H (upd H r u) := Tm.ofEb Eb.put h n
theorem Tm.lst {H : Hp} {r : Addr} {xs : List V} {u : HO} (h : H r = some (.lst xs)) : Tm H (upd H r u) := Tm.put h (fun _ q => nomatch q)
theorem Tm.dT {H : Hp} {r : Addr} {kvs : List (List L2.Key × V)} {u : HO} (h : H r = some (.dT kvs)) : Tm H (upd H r u) := Tm.put h (fun _ q => nomatch q)
theorem IsT.tm {H H' : Hp} {v : V} {xs : List V} (h : IsT H v xs) (e : Tm H H') : IsT H' v xs := let ⟨a, p, q⟩ := h; ⟨a, p, e _ _ q⟩
theorem IsT.sq {K : PySem.W.Frag} {H : Hp} {a : Addr} {xs : List V} (h : IsT H (.ref a) xs) : SqT K H a xs := by
  obtain ⟨b, e, q⟩ := h
  cases e
  exact SqT.of q
theorem IsT.mk {H : Hp} {a : Addr} {xs : List V} (h : H a = some (.tup xs)) : IsT H (.ref a) xs := ⟨a, rfl, h⟩
theorem IsT.inj {H : Hp} {v : V} {xs ys : List V} (h : IsT H v xs) (h' : IsT H v ys) : xs = ys := by
  obtain ⟨a, rfl, e⟩ := h
  obtain ⟨b, q, e'⟩ := h'
  cases q
  rw [e] at e'
  cases e'
  rfl

/-- a tuple of whole numbers: a dial, an arrow, a part -/
def iv (d : List Nat) : List V := d.map fun x : Nat => V.int (x : Int)
def ik (d : List Nat) : List L2.Key := d.map fun x : Nat => (Sum.inl (x : Int) : L2.Key)
def ii (d : List Nat) : List Int := d.map fun x : Nat => (x : Int)
theorem iv_ii (d : List Nat) : (ii d).map V.int = iv d := by unfold ii iv; rw [List.map_map]; rfl
theorem ik_kV (d : List Nat) : (ik d).map kV = iv d := by unfold ik iv; rw [List.map_map]; rfl
theorem iv_len (d : List Nat) : (iv d).length = d.length := List.length_map _
theorem iv_get {d : List Nat} {i : Nat} (h : i < d.length) : (iv d)[i]? = some (V.int ((d.getD i 0 : Nat) : Int)) := by
  unfold iv
  rw [List.getElem?_map, List.getElem?_eq_getElem h, List.getD_eq_getElem?_getD]
  rw [List.getElem?_eq_getElem h]
  rfl
theorem ik_inj {d e : List Nat} (h : ik d = ik e) : d = e := by
  unfold ik at h
  refine List.map_inj_right (fun x y q => ?_) |>.mp h
  have := Sum.inl.inj q
  omega
theorem iv_inj {d e : List Nat} (h : iv d = iv e) : d = e := by
  unfold iv at h
  refine List.map_inj_right (fun x y q => ?_) |>.mp h
  have := V.int.inj q
  omega
def IsI (H : Hp) (v : V) (d : List Nat) : Prop := IsT H v (iv d)
theorem IsI.ex {H H' : Hp} {v : V} {d : List Nat} (h : IsI H v d) (e : Ex H H') : IsI H' v d := IsT.ex h e
theorem IsI.tm {H H' : Hp} {v : V} {d : List Nat} (h : IsI H v d) (e : Tm H H') : IsI H' v d := IsT.tm h e
theorem IsI.inj {H : Hp} {v : V} {d e : List Nat} (h : IsI H v d) (h' : IsI H v e) : d = e := iv_inj (IsT.inj h h')
abbrev Arw := Nat × Nat
def IsA (H : Hp) (v : V) (a : Arw) : Prop := IsT H v [.int (a.1 : Int), .int (a.2 : Int)]
theorem IsA.i {H : Hp} {v : V} {a : Arw} (h : IsA H v a) : IsI H v [a.1, a.2] := h
/-- item by item -/
abbrev All2 {α β : Type} (R : α → β → Prop) : List α → List β → Prop := Paired R
/-- a tuple of arrows -/
def IsW (H : Hp) (v : V) (w : List Arw) : Prop := ∃ vs, IsT H v vs ∧ All2 (IsA H) vs w
theorem IsW.tm {H H' : Hp} {v : V} {w : List Arw} (h : IsW H v w) (e : Tm H H') : IsW H' v w := let ⟨vs, p, q⟩ := h; ⟨vs, p.tm e, Paired.mapP q fun _ _ r => IsT.tm r e⟩
theorem IsW.ex {H H' : Hp} {v : V} {w : List Arw} (h : IsW H v w) (e : Ex H H') : IsW H' v w := h.tm (Tm.of e)
/-- a web -/
def IsWeb (H : Hp) (v : V) (n : Nat) (as : List Arw) : Prop := ∃ y, IsT H v [.int (n : Int), y] ∧ IsW H y as
theorem IsWeb.tm {H H' : Hp} {v : V} {n : Nat} {as : List Arw} (h : IsWeb H v n as) (e : Tm H H') : IsWeb H' v n as := let ⟨y, p, q⟩ := h; ⟨y, p.tm e, q.tm e⟩
theorem IsWeb.ex {H H' : Hp} {v : V} {n : Nat} {as : List Arw} (h : IsWeb H v n as) (e : Ex H H') : IsWeb H' v n as := h.tm (Tm.of e)
theorem all2_get {α β : Type} {R : α → β → Prop} : ∀ {xs : List α} {ys : List β}, All2 R xs ys → ∀ {i : Nat} {x : α}, xs[i]? = some x → ∃ y, ys[i]? = some y ∧ R x y
  | _, _, .nil, i, x, h => by simp at h
  | _, _, .cons r _, 0, x, h => by simp at h; subst h; exact ⟨_, rfl, r⟩
  | _, _, .cons _ t, i + 1, x, h => by
    obtain ⟨y, h1, h2⟩ := all2_get t (i := i) (x := x) (by simpa using h)
    exact ⟨y, by simpa using h1, h2⟩
theorem all2_getR {α β : Type} {R : α → β → Prop} : ∀ {xs : List α} {ys : List β}, All2 R xs ys → ∀ {i : Nat} {y : β}, ys[i]? = some y → ∃ x, xs[i]? = some x ∧ R x y
  | _, _, .nil, i, x, h => by simp at h
  | _, _, .cons r _, 0, x, h => by simp at h; subst h; exact ⟨_, rfl, r⟩
  | _, _, .cons _ t, i + 1, x, h => by
    obtain ⟨y, h1, h2⟩ := all2_getR t (i := i) (y := x) (by simpa using h)
    exact ⟨y, by simpa using h1, h2⟩
theorem all2_snoc {α β : Type} {R : α → β → Prop} {x : α} {y : β} : ∀ {xs : List α} {ys : List β}, All2 R xs ys → R x y → All2 R (xs ++ [x]) (ys ++ [y])
  | _, _, .nil, h => .cons h .nil
  | _, _, .cons r t, h => .cons r (all2_snoc t h)
theorem all2_app {α β : Type} {R : α → β → Prop} : ∀ {xs : List α} {ys : List β} {xs' : List α} {ys' : List β}, All2 R xs ys → All2 R xs' ys' → All2 R (xs ++ xs') (ys ++ ys')
  | _, _, _, _, .nil, h => h
  | _, _, _, _, .cons r t, h => .cons r (all2_app t h)

/-! ### rules by values, in fewer words -/
section
variable {X : Cx}
theorem OpR.imp {f : Value → Value → Sem Value} {r r' : R2} (h : OpR X f r) (k : ∀ x y H Q, r' x y H Q → r x y H Q) : OpR X f r' :=
  fun pins s σ H x y v u Q I rx ry q => h pins s σ H x y v u Q I rx ry (k _ _ _ _ q)
theorem CallR.imp {f : Value} {r r' : List V → Hp → VK → Prop} (h : CallR X f r) (k : ∀ xs H Q, r' xs H Q → r xs H Q) : CallR X f r' :=
  fun pins s σ H xs us Q I rx q => h pins s σ H xs us Q I rx (k _ _ _ q)
theorem SlR.imp {r r' : V → Option Int → Option Int → Hp → VK → Prop} (h : SlR X r) (k : ∀ x lo hi H Q, r' x lo hi H Q → r x lo hi H Q) : SlR X r' :=
  fun pins s σ H x v vl vu lo hi sl Q I rx hs pl pu q => h pins s σ H x v vl vu lo hi sl Q I rx hs pl pu (k _ _ _ _ _ q)
/-- t + u -/
def rCat : R2 := fun x y H Q => ∃ xs ys, IsT H x xs ∧ IsT H y ys ∧ xs.length + ys.length ≤ 100000 ∧ ∀ v H', Ex H H' → IsT H' v (xs ++ ys) → Q v H'
theorem op_cat2 : OpR X (binaryOp .Add) rCat := OpR.imp op_catA fun x y H Q h => by
  obtain ⟨xs, ys, ⟨a, rfl, ha⟩, ⟨b, rfl, hb⟩, hz, q⟩ := h
  refine ⟨a, b, xs, ys, rfl, rfl, SqT.of ha, SqT.of hb, Nat.le_trans hz (by decide), fun e => ?_, fun e e' => ?_, fun _ _ p hp => q _ _ (Ex.new hp) (IsT.mk upd_same)⟩
  · exact q _ _ (Same.refl H) (by rw [e]; exact IsT.mk hb)
  · exact q _ _ (Same.refl H) (by rw [e', List.append_nil]; exact IsT.mk ha)
/-- t[lo:hi] -/
def rCut : V → Option Int → Option Int → Hp → VK → Prop := fun x lo hi H Q => ∃ xs, IsT H x xs ∧ ∀ v H', Ex H H' → IsT H' v (cutV xs lo hi) → Q v H'
theorem sl_cut : SlR X rCut := SlR.imp sl_tupA fun x lo hi H Q h => by
  obtain ⟨xs, ⟨a, rfl, ha⟩, q⟩ := h
  refine ⟨a, xs, rfl, SqT.of ha, fun e => ?_, fun _ p hp => q _ _ (Ex.new hp) (IsT.mk upd_same)⟩
  refine q _ _ (Same.refl H) ?_
  unfold cutV
  rw [e.1, e.2, List.drop_zero, Nat.sub_zero, List.take_length]
  exact IsT.mk ha
theorem cut_to (xs : List V) {i : Nat} (h : i ≤ xs.length) : cutV xs none (some (i : Int)) = xs.take i := by
  unfold cutV
  rw [HT.sIx_none, HT.sIx_nat, List.drop_zero, Nat.sub_zero, Nat.min_eq_left h]
theorem cut_from (xs : List V) {i : Nat} (h : i ≤ xs.length) : cutV xs (some (i : Int)) none = xs.drop i := by
  unfold cutV
  rw [HT.sIx_none, HT.sIx_nat, Nat.min_eq_left h]
  exact List.take_of_length_le (by rw [List.length_drop]; omega)
/-- t[i] -/
def rIx : R2 := fun x y H Q => ∃ xs i v, IsT H x xs ∧ y = .int i ∧ atI xs i = some v ∧ Q v H
theorem ix_t : IxR X rIx := fun value slice pins s σ H x y v u Q I rx ry h hs => ix_tup value slice pins s σ H x y v u Q I rx ry (by
  obtain ⟨xs, i, v, ⟨a, rfl, ha⟩, rfl, hv, q⟩ := h
  exact ⟨a, xs, i, v, rfl, rfl, SqT.of ha, hv, q⟩) hs
end
end CK

/-! Rules of one's own: a dict display with one tuple key, the keys of such a dict walked and sorted, enumerate of a tuple, < of words -/
namespace CK
open PySem PySem.Spec PyProof.Rows L2

/-! ### {k: v}, k a tuple -/
def tDisp1 (tk tv : TE) : TE := fun σ H Q => ∀ p, H p = none → tk σ (upd H p (.dT [])) fun x H1 => tv σ H1 fun y H2 =>
  H2 p = some (.dT []) ∧ ∃ (ks : List L2.Key) (b : Addr), x = .ref b ∧ H2 b = some (.tup (ks.map kV)) ∧ Q (.ref p) (upd H2 p (.dT [(ks, y)]))
theorem pe_disp1 {X : Cx} {k v : Expr} {pos : Pos} {tk tv : TE} (hu : X.A.units + 1 < cLine) (hk : PE X k tk) (hv : PE X v tv) : PE X (.Dict [some k] [v] pos) (tDisp1 tk tv) := by
  refine ⟨fun pins s σ H Q I h => ?_⟩
  have newD := I.hok.fresh (Nat.le_refl s.heap.objs.size)
  have InvA := I.laid (a := s.heap.objs.size) (o := .dT []) (h' := s.heap.push { cls := .type "dict", data := .dict #[] }) (t' := s.toks) (fun _ _ q => Heap.get?_push_of_some _ q) (Nat.le_refl _) (dt_empty s.heap I.big)
  have few : (pairTrees [some k] [v] X.env pos).length ≤ 15 := by show 1 ≤ 15; decide
  have shape := zip_pairTrees [some k] [v] X.env pos rfl rfl
  rw [arm_eval_Dict, shape, dictDisplay_pairs (pairTrees [some k] [v] X.env pos) (fun q => nomatch q) (by omega)]
  have sub := fun ask => wpAny_subDictH (prog := X.prog) (w := X.w) (knd := tupleKind (mixKind X.prog X.w)) (A := X.A) (E := X.xe) (s := s) (Q := fun c s2 => wpAny (model X.prog X.w) X.A (pure (Value.ref c)) (EP X pins σ Q) X.xe s2) (pairs := pairTrees [some k] [v] X.env pos) (show X.A.units < cLine by omega) few ask
  refine wpAny_bind (wpAny_standAt (wpAny_bind (sub ?_)))
  refine wpAny_mono (Q := fun vs s2 => ∃ ps, CarriesH (tupleKind (mixKind X.prog X.w)) s2.heap vs ps ∧ s2.heap.DictOfH (tupleKind (mixKind X.prog X.w)) s.heap.objs.size [] ∧ ∀ g tk, g.DictOfH (tupleKind (mixKind X.prog X.w)) s.heap.objs.size (storedAllH [] ps) → Heap.SameBut s.heap.objs.size s2.heap g → EP X pins σ Q (.ref s.heap.objs.size) { s2 with heap := g, toks := tk }) ?_
    (fun _ _ ⟨ps, c1, c2, c3⟩ => ⟨ps, c1, c2, fun g tk x y => wpAny_pure (c3 g tk x y)⟩) fun _ _ z => z
  refine pairTrees_cons_walk (thn (hk.run pins _ σ _ _ InvA (h _ newD)) fun u s1 ⟨x, H1, InvB, relK, q1⟩ => thn (hv.run pins s1 σ H1 _ InvB q1) fun w2 s2 ⟨y, H2, InvC, relV, q2⟩ => pairTrees_nil_walk ?_)
  obtain ⟨e, ks, b, rfl, hb, q⟩ := q2
  cases relK
  have objD := InvC.hok _ _ e
  obtain ⟨z, hd, xs, rel, o, es, ep, h1, h2, h3, h4, _⟩ := id objD
  cases rel
  have key := key_of InvC.hok hb
  refine ⟨[(ks, b, w2)], ⟨rfl, rfl, key, trivial⟩, ⟨o, es, ep, h1, h2, h3, h4, (fun _ hm => nomatch hm), List.nodup_nil⟩, fun h' tk dd hs => ?_⟩
  have hne : b ≠ s.heap.objs.size := ne_of hb e (fun z => nomatch z)
  obtain ⟨o', es', ep', g1, g2, g3, g4, g5, g6⟩ := dd
  have new : ObjOk X.prog X.w (upd H2 s.heap.objs.size (.dT [(ks, y)])) h' s.heap.objs.size (.dT [(ks, y)]) := by
    refine ⟨by show 1 ≤ sizeLine; decide, hd, [(ks, b, w2)], .cons ⟨rfl, ?_, relV⟩ .nil, o', es', ep', g1, g2, g3, g4, g6⟩
    show upd H2 s.heap.objs.size _ b = _
    rw [upd_ne hne]
    exact hb
  exact ⟨.ref s.heap.objs.size, _, d_write InvC (by rw [e]; exact True.intro) hs ⟨o', g1⟩ new, rfl, q⟩

/-! ### for x0 in d.keys(), d with tuple keys -/
section
variable {X : Cx} {tg e : Expr} {td : TE} {apos cpos : Pos}
def iKeysT (td : TE) : TI := fun σ H Rn => td σ H fun x0 HA => ∃ d o kvs, x0 = .ref d ∧ HA d = some (.frz o (.dT kvs)) ∧ Rn (Itkt d o kvs) HA
theorem pi_keysT (he : PE X e td) (hbase : attributeBase e "keys" X.env (eval e X.env) = eval e X.env := by rfl) (hline : (apos.endLine == cpos.line) = true := by rfl) : PI X tg (.Call (.Attribute e "keys" apos) [] [] cpos) (iKeysT td) := by
  refine ⟨fun pins s σ H Rn I ask => ?_⟩
  refine wpAny_Call_method (T := "dict") (id := "dict.keys") hbase rfl hline F.plainAttrs_dict F.slot_dict_keys F.type_dict_keys (thn (he.run pins s σ H _ I ask) fun raw0 sA ⟨x0, HA, InvA, relX, d, o, kvs, isRef, hd, q0⟩ => ?_)
  subst isRef
  obtain rfl : raw0 = Value.ref d := relX
  obtain ⟨notSys, atD, exactD, es, ep, dataD, size0, _⟩ := InvA.frzT hd
  have asRaw : sA.heap.DictRaw d es ep := ⟨o, atD, exactD, dataD⟩
  refine ⟨asRaw.typeIs, fun c q0 => by cases q0; exact ⟨o, atD, exactD.2.1⟩, ?_⟩
  have InvB : Inv X pins σ HA { sA with heap := sA.heap.push { cls := .type "dict_keys", data := .fields #[.ref d] } } := InvA.kept (t' := sA.toks) fun c oc q0 => Heap.get?_push_of_some _ q0
  have last0 : wpAny (model X.prog X.w) X.A (pyIter (.ref sA.heap.objs.size)) (PIE X pins σ tg Rn) X.xe { sA with heap := sA.heap.push { cls := .type "dict_keys", data := .fields #[.ref d] } } := by
    refine wpAny_pyIter_keys_raw (d := d) ⟨_, Heap.get?_push_size _ rfl, rfl, rfl⟩ (asRaw.at fun oc q0 => Heap.get?_push_of_some _ q0) (pi_one (tk := sA.toks) InvB _ (turn_keysT _ dataD) ⟨_, Heap.get?_push_size _ rfl, rfl, ?_⟩ q0)
    rw [size0] <;> rfl
  show wpAny _ _ (callWith cpos (.builtin "dict.keys") [.ref d] [] []) _ X.xe sA
  exact method_meetsIn F.slot_dict_keys F.entry_dict_keys rfl (PySem.evalArgs_none ⟨rfl, asRaw.typeIs, F.args_dict_keys_1 _, _, meets_dict_keys_raw d notSys, ⟨es, ep, asRaw⟩, last0⟩)
end
end CK

/-! enumerate of a tuple -/
namespace CK
open PySem PySem.Spec PyProof.Rows L2

theorem meets_enumerate_1B {v : Value} {o : Obj} {H : Heap → Prop} (B : Begins v o H) :
    Meets (Builtin.«enumerate.__new__» ⟨[.type "enumerate", v], []⟩) (fun _ R s => H s.heap ∧
      R (.ok (.ret (.ref (s.heap.push o).objs.size))) { s with heap := (s.heap.push o).push { cls := .type "enumerate", data := .fields #[.none, .bool false, .ref s.heap.objs.size, rawInt 0, .none, .none] } }) :=
  .of_wp fun prog w A R s h => by
    obtain ⟨heap0, gens0, d, toks0, os⟩ := s; obtain ⟨w1, h⟩ := h
    have subE := sub_enumerate
    have askA : ∀ {A' : Around} {E : Value → Shared → Prop} {Q : Value → Shared → Prop}, Q (.ref heap0.objs.size) ⟨heap0.push o, gens0, d, toks0, os⟩ → wpAny (model prog w) A' (pyIter v) Q E ⟨heap0, gens0, d, toks0, os⟩ :=
      fun q => B.iter prog w _ _ ⟨heap0, gens0, d, toks0, os⟩ _ w1 q
    wp_walk using askA
    refine wpAny_stack_any fun stood => wpAny_pure ?_
    split
    · rename_i c _ _ _ _ _
      cases (c == Value.type "enumerate") <;> skip
      · wp_walk using askA
        exact ⟨_, rfl, h⟩
      · wp_walk using askA
        exact ⟨_, rfl, h⟩
    · wp_walk using askA
      exact ⟨_, rfl, h⟩
section
variable {prog : Program} {w : World}
variable {A : Around} {E : Value → Shared → Prop} {s : Shared}
theorem call_enumerate_B {v : Value} {o : Obj} {H : Heap → Prop} {Q : Value → Shared → Prop} (B : Begins v o H) (w1 : H s.heap)
    (h : ∀ h', IsEnum h' (s.heap.objs.size + 1) s.heap.objs.size 0 .none → h'.get? s.heap.objs.size = some o → h'.objs.size = s.heap.objs.size + 2 →
      (∀ c u, s.heap.get? c = some u → h'.get? c = some u) → Q (.ref (s.heap.objs.size + 1)) { s with heap := h' }) :
    wpAny (model prog w) A (call (.type "enumerate") [v]) Q E s := by
  refine callType_new F.called_enumerate (by decide) (F.typeCall_enumerate_1 _) (F.newCall_enumerate_1 _)
    (fun obj => F.args_object_init_2 obj _) F.entry_enumerate_new
    (meets_enumerate_1B B) ⟨w1, ?_⟩
  have few : (s.heap.push o).objs.size = s.heap.objs.size + 1 := Heap.size_push ..
  show _ ∧ _
  rw [few]
  have isEn : IsEnum ((s.heap.push o).push { cls := .type "enumerate", data := .fields #[.none, .bool false, .ref s.heap.objs.size, rawInt 0, .none, .none] }) (s.heap.objs.size + 1) s.heap.objs.size 0 .none := by
    have := Heap.get?_push_size (s.heap.push o) (o := { cls := .type "enumerate", data := .fields #[.none, .bool false, .ref s.heap.objs.size, rawInt 0, .none, .none] }) rfl
    rw [few] at this; exact this
  refine ⟨⟨_, isEn, rfl⟩, h _ isEn (Heap.get?_push_of_some _ (Heap.get?_push_size _ B.free)) (by rw [Heap.size_push, few]) fun b o x => Heap.get?_push_of_some _ (Heap.get?_push_of_some _ x)⟩
end
/-- the tuple at a, each item in a okPair pair -/
def Itet (K : PySem.W.Frag) (a : Addr) : It :=
  ⟨fun i H => ∃ (xs : List V) (x : V), SqT K H a xs ∧ xs[i]? = some x, fun i H v H' => ∃ pr x, v = .ref pr ∧ H pr = none ∧ H' = upd H pr (.tup [.int (i : Nat), x]) ∧ ∀ xs, SqT K H a xs → xs[i]? = some x, fun i H => ∃ xs : List V, SqT K H a xs ∧ xs.length = i⟩
theorem turn_enumT {P : Program} {w : World} {K : PySem.W.Frag} {elts : List Expr} {kk : Nat} {tpos : Pos} (a e it : Addr) (hea : a ≠ it) (hae : a ≠ e) :
    Turn P w K (.Tuple elts kk tpos) (Itet K a) [e, it] e (fun i h => (∃ prev, IsEnum h e it ((i : Nat) : Int) prev) ∧ h.IsTupleIter it a i ∧ e ≠ it) where
  mem := by simp
  obj := fun i h stood b mem0 => by
    obtain ⟨⟨prev, isEn⟩, ⟨o, obj0, calm0, data0⟩, _⟩ := stood
    have either : b = e ∨ b = it := by simpa using mem0
    rcases either with eq0 | eq0
    · rw [eq0]; exact ⟨_, isEn, fun v q => nomatch q⟩
    · rw [eq0]; exact ⟨o, obj0, fun v q => by rw [data0] at q; cases q⟩
  keep := fun i h h' stood k => let ⟨⟨prev, isEn⟩, hi, apart⟩ := stood; ⟨⟨prev, k e (by simp) _ isEn⟩, hi.at fun o q => k it (by simp) o q, apart⟩
  item := by
    intro X hP hw hK calm0 i pins s σ H E I free0 stood going
    subst hP hw hK
    obtain ⟨⟨prev, isEn⟩, onIt, apart⟩ := stood
    obtain ⟨xs, x, onA, itemAt⟩ := going
    obtain ⟨its, relAll, plain0, few⟩ := I.tuple onA
    obtain ⟨u, rawAt, rawRel⟩ := relAll.get itemAt
    have eIn : e < s.heap.objs.size := Heap.lt_size isEn
    have itIn : it < s.heap.objs.size := by obtain ⟨_, q, _⟩ := onIt; exact Heap.lt_size q
    have inItems : i < its.toArray.size := by
      have := (List.getElem?_eq_some_iff.mp rawAt).1
      simpa using this
    refine wpAny_pyNext_enum_itemD (Draws.tuple (show X.A.in1.handled = none from I.ok.hd calm0) it a hea its.toArray) isEn ⟨onIt, plain0⟩ inItems apart (by simp only [List.mem_cons, List.not_mem_nil, or_false, not_or]; exact ⟨apart, fun eq0 => hae eq0.symm⟩) fun y h' toks0 hP obj0 hs' pair0 size0 kept0 => ?_
    have onB : y = u := by
      have askA : its[i]? = some y := by simpa using hP
      rw [rawAt] at askA
      exact (Option.some.inj askA).symm
    subst onB
    refine ⟨_, rfl, wpAny_letOwnedTupleGo_enum (s := { s with heap := h', toks := toks0 + 1 }) obj0 fun h'' he' same0 => ?_⟩
    have pairAt : h''.get? s.heap.objs.size = some { cls := .type "tuple", data := .seq #[.int i toks0, y] } := (same0.2 _ (Nat.ne_of_gt eIn)).trans pair0
    have okPair : ObjOk X.prog X.w (upd H s.heap.objs.size (.tup [.int (i : Nat), x])) h'' s.heap.objs.size (.tup [.int (i : Nat), x]) :=
      ⟨by show 2 ≤ sizeLine; decide, [.int i toks0, y], .cons ⟨_, rfl⟩ (.cons rawRel .nil), ⟨_, pairAt, rfl, _, rfl⟩⟩
    have InvA : Inv X pins σ (upd H s.heap.objs.size (.tup [.int (i : Nat), x])) { s with heap := h'', toks := toks0 + 1 } :=
      I.turnedNew (ch := [e, it]) (fun b ob mem0 q => (same0.2 b (fun eq0 => mem0 (by simp [eq0]))).trans (kept0 b ob (fun eq0 => mem0 (by simp [eq0])) (fun eq0 => mem0 (by simp [eq0])) q)) free0 (Nat.le_refl _) okPair
    refine ⟨.ref s.heap.objs.size, _, InvA, rfl, ⟨_, x, rfl, I.hok.fresh (Nat.le_refl _), rfl, fun others onB => by rw [I.tuple_inj onB onA]; exact itemAt⟩, ⟨⟨y, ?_⟩, hs'.1.at fun o q => (same0.2 it (Ne.symm apart)).trans q, apart⟩, fun b mem0 => ?_⟩
    · have succI : ((i + 1 : Nat) : Int) = (i : Int) + 1 := by omega
      rw [succI]; exact he'
    · have bIn : b < s.heap.objs.size := by
        have either : b = e ∨ b = it := by simpa using mem0
        rcases either with eq0 | eq0
        · rw [eq0]; exact eIn
        · rw [eq0]; exact itIn
      rw [upd_ne (Nat.ne_of_lt bIn)]
      exact (free0 b mem0).1
  done := by
    intro X hP hw hK calm0 i pins s σ H E I free0 stood going
    subst hP hw hK
    obtain ⟨⟨prev, isEn⟩, onIt, apart⟩ := stood
    obtain ⟨xs, onA, itemAt⟩ := going
    obtain ⟨its, relAll, plain0, few⟩ := I.tuple onA
    obtain ⟨g0, g1, _, g3, g4, g5⟩ := free0 it (by simp)
    have lenAll := relAll.length
    have endI : i = its.toArray.size := by simp; omega
    subst endI
    exact wpAny_pyNext_enum_endD (Draws.tuple (show X.A.in1.handled = none from I.ok.hd calm0) it a hea its.toArray) isEn ⟨onIt, plain0⟩ fun h' eb => ⟨rfl, I.turned (t' := s.toks) (fun b o mem0 q => eb b o mem0 q) g0 g1 g3 g4 g5⟩
  self := fun A i s Q E stood h => let ⟨⟨_, isEn⟩, _⟩ := stood; wpAny_pyIter_enum isEn h
def iEnumT (K : PySem.W.Frag) (ta : TA) : TI := fun σ H R => ta σ H fun args0 HA => ∃ a xs, args0 = [.ref a] ∧ SqT K HA a xs ∧ R (Itet K a) HA
theorem pi_enumT {X : Cx} {e : Expr} {ta : TA} {plain0 pos tpos : Pos} {elts : List Expr} {kk : Nat} (going : Gl X "enumerate") (hm : X.mg "enumerate" = none) (ha : PA X [e] ta) (hs : starEach [e] X.env = [(false, eval e X.env)] := by rfl) :
    PI X (.Tuple elts kk tpos) (.Call (.Name "enumerate" plain0) [e] [] pos) (iEnumT X.K ta) := by
  refine ⟨fun pins s σ H R I h => ?_⟩
  refine Call_ (ld_blt I going hm boot_enumerate (PyProof.Rows.callWith_type1 (thn (ha.run pos pins s σ H _ I h) fun raws sA ⟨args0, HA, InvA, relA, askA⟩ => ?_) hs rfl))
  obtain ⟨a, xs, isRef, onA, q⟩ := askA
  subst isRef
  cases relA with
  | cons r relB =>
    cases relB
    cases r
    obtain ⟨its, relAll, plainA, few⟩ := InvA.tuple onA
    refine call_enumerate_B (begins_tuple a its.toArray) plainA fun h' isEn onIt size0 kept0 => wpAny_pyIter_enum isEn ?_
    have InvB : Inv X pins σ HA { sA with heap := h' } := InvA.kept (t' := sA.toks) kept0
    have aIn : a < sA.heap.objs.size := by obtain ⟨_, q, _⟩ := plainA; exact Heap.lt_size q
    refine ⟨sA.heap.objs.size + 1, [sA.heap.objs.size + 1, sA.heap.objs.size], _, _, HA, rfl, InvB, turn_enumT a (sA.heap.objs.size + 1) sA.heap.objs.size (Nat.ne_of_lt aIn) (Nat.ne_of_lt (Nat.lt_succ_of_lt aIn)), ⟨⟨.none, isEn⟩, ⟨_, onIt, rfl, rfl⟩, Nat.succ_ne_self _⟩, fun b mem0 => ?_, q⟩
    have either : b = sA.heap.objs.size + 1 ∨ b = sA.heap.objs.size := by simpa using mem0
    have leB : sA.heap.objs.size ≤ b := by
      rcases either with eq0 | eq0
      · rw [eq0]
        exact Nat.le_add_right _ _
      · rw [eq0]; exact Nat.le_refl _
    exact InvA.fpOk leB (InvA.hok.fresh leB)
theorem walk_enumT {K : PySem.W.Frag} {a : Addr} {xs : List V} : Walk (Itet K a) xs.length (fun H => SqT K H a xs) (YPair (fun i => some (.int (i : Nat))) (fun i => xs[i]?)) := by
  refine ⟨fun i _ hi q => ⟨xs, xs[i], q, by simp [hi]⟩, fun _ q => ⟨xs, q, rfl⟩, fun i H v H' _ q y => ?_⟩
  obtain ⟨pr, x, w1, w2, w3, w4⟩ := y
  exact ⟨pr, .int (i : Nat), x, w1, w2, w3, rfl, w4 xs q⟩
end CK

/-! < of nested tuples; sorted(d.keys()) -/
namespace CK
open PySem PySem.Spec PyProof.Rows L2

section
variable {X : Cx}
def rLtD (K : PySem.W.Frag) : R2 := fun x y H Q => ∃ d e, Dp K H x d ∧ Dp K H y e ∧ PySem.W.alike d e = true ∧ d ≠ .none ∧ d.depth ≤ 60 ∧ Q (.bl (PySem.W.dataLt d e)) H
theorem op_ltD (hu : X.A.units + 64 < cLine) : OpR X (compareOp .Lt) (rLtD X.K) := by
  intro pins s σ H x y v u Q I rx ry h
  obtain ⟨d, e, hd, he, al, nn, dp, q⟩ := h
  obtain ⟨as1, read1⟩ := Dp.reads I d x v hd rx
  obtain ⟨bs1, read2⟩ := Dp.reads I e y u he ry
  exact PySem.W.rcLt_alike d e X.A s v u as1 bs1 read1 read2 al nn (by have := Nat.min_le_left d.depth e.depth; omega) X.prog X.w X.xe _ ⟨.bl _, H, I, rfl, q⟩
end
/-! words as data -/
def adat (a : Arw) : PyData := .tuple [.int (a.1 : Int), .int (a.2 : Int)]
def wdat (w : List Arw) : PyData := .tuple (w.map adat)
theorem dp_arw {K : PySem.W.Frag} {H : Hp} {v : V} {a : Arw} (h : IsA H v a) : Dp K H v (adat a) := by
  obtain ⟨p, rfl, e⟩ := h
  exact .tup (SqT.of e) (.cons (.int _) (.cons (.int _) .nil))
theorem dp_all {K : PySem.W.Frag} {H : Hp} : ∀ {vs : List V} {w : List Arw}, All2 (IsA H) vs w → DpAll K H vs (w.map adat)
  | _, _, .nil => .nil
  | _, _, .cons r t => .cons (dp_arw r) (dp_all t)
theorem dp_word {K : PySem.W.Frag} {H : Hp} {v : V} {w : List Arw} (h : IsW H v w) : Dp K H v (wdat w) := by
  obtain ⟨vs, ⟨p, rfl, e⟩, r⟩ := h
  exact .tup (SqT.of e) (dp_all r)
def idat (d : List Nat) : PyData := .tuple (d.map fun x : Nat => PyData.int (x : Int))
theorem dp_ints {K : PySem.W.Frag} {H : Hp} : ∀ d : List Nat, DpAll K H (iv d) (d.map fun x : Nat => PyData.int (x : Int))
  | [] => .nil
  | x :: d => .cons (.int _) (dp_ints d)
theorem dp_i {K : PySem.W.Frag} {H : Hp} {v : V} {d : List Nat} (h : IsI H v d) : Dp K H v (idat d) := by
  obtain ⟨p, rfl, e⟩ := h
  exact .tup (SqT.of e) (dp_ints d)

/-- the order of arrows, of words of one length -/
def alt (a b : Arw) : Bool := decide (a.1 < b.1 ∨ (a.1 = b.1 ∧ a.2 < b.2))
def wlt : List Arw → List Arw → Bool
  | [], [] => false
  | [], _ :: _ => true
  | _ :: _, [] => false
  | a :: u, b :: v => if a = b then wlt u v else alt a b
theorem alike_all : ∀ (u v : List Arw), PySem.W.alikeAll (u.map adat) (v.map adat) = true
  | [], _ => by simp [PySem.W.alikeAll]
  | _ :: _, [] => by simp [PySem.W.alikeAll]
  | a :: u, b :: v => by
    show PySem.W.alikeAll (adat a :: u.map adat) (adat b :: v.map adat) = true
    rw [PySem.W.alikeAll, alike_all u v]
    simp [adat, PySem.W.alike, PySem.W.alikeAll]
theorem alike_arw (a b : Arw) : PySem.W.alike (adat a) (adat b) = true := by simp [adat, PySem.W.alike, PySem.W.alikeAll]
theorem eqv_arw (a b : Arw) : PyData.eqv (adat a) (adat b) = decide (a = b) := by
  obtain ⟨a1, a2⟩ := a
  obtain ⟨b1, b2⟩ := b
  unfold adat
  simp only [PyData.eqv, PyData.eqvAll]
  rw [Bool.eq_iff_iff]
  simp
  omega
theorem dataLt_arw (a b : Arw) : PySem.W.dataLt (adat a) (adat b) = alt a b := by
  unfold adat alt
  rw [PySem.W.dataLt_ii]
  rw [decide_eq_decide]
  omega
theorem dataLt_words : ∀ (u v : List Arw), PyProof.Rows.lexLt PyProof.Rows.itemOrd (PySem.W.keyToksAll (u.map adat)) (PySem.W.keyToksAll (v.map adat)) = wlt u v
  | [], [] => PyProof.Rows.lex_irrefl _
  | [], b :: v => by
    show PyProof.Rows.lexLt PyProof.Rows.itemOrd (PySem.W.keyToksAll []) (PySem.W.keyToksAll (adat b :: v.map adat)) = true
    rw [PySem.W.toks_all_cons]
    simp only [PySem.W.keyToksAll]
    rw [PyProof.Rows.lex_diff (O := PyProof.Rows.itemOrd) (by simp)]
    rfl
  | a :: u, [] => by
    show PyProof.Rows.lexLt PyProof.Rows.itemOrd (PySem.W.keyToksAll (adat a :: u.map adat)) (PySem.W.keyToksAll []) = false
    rw [PySem.W.toks_all_cons]
    simp only [PySem.W.keyToksAll]
    rw [PyProof.Rows.lex_diff (O := PyProof.Rows.itemOrd) (by simp)]
    rfl
  | a :: u, b :: v => by
    show PyProof.Rows.lexLt PyProof.Rows.itemOrd (PySem.W.keyToksAll (adat a :: u.map adat)) (PySem.W.keyToksAll (adat b :: v.map adat)) = wlt (a :: u) (b :: v)
    rw [PySem.W.dataLt_cons (alike_arw a b), eqv_arw, dataLt_words u v, dataLt_arw]
    show _ = if a = b then wlt u v else alt a b
    by_cases h : a = b
    · rw [if_pos h, if_pos (by simpa using h)]
    · rw [if_neg h, if_neg (by simpa using h)]
theorem dataLt_word (u v : List Arw) : PySem.W.dataLt (wdat u) (wdat v) = wlt u v := by
  unfold wdat
  rw [PySem.W.dataLt_tuple, dataLt_words]
theorem depth_all : ∀ w : List Arw, PyData.depthAll (w.map adat) ≤ 2
  | [] => by simp [PyData.depthAll]
  | a :: w => by
    show PyData.depthAll (adat a :: w.map adat) ≤ 2
    rw [PyData.depthAll]
    have := depth_all w
    have h : (adat a).depth ≤ 2 := by simp [adat, PyData.depth, PyData.depthAll]
    omega
theorem depth_word (w : List Arw) : (wdat w).depth ≤ 60 := by
  unfold wdat
  rw [PyData.depth]
  have := depth_all w
  omega
section
variable {X : Cx}
/-- w < u of words -/
def rLtW : R2 := fun x y H Q => ∃ u v, IsW H x u ∧ IsW H y v ∧ Q (.bl (wlt u v)) H
theorem op_ltW (hu : X.A.units + 64 < cLine) : OpR X (compareOp .Lt) rLtW := OpR.imp (op_ltD hu) fun x y H Q h => by
  obtain ⟨u, v, h1, h2, q⟩ := h
  refine ⟨wdat u, wdat v, dp_word h1, dp_word h2, ?_, (fun z => nomatch z), depth_word u, ?_⟩
  · unfold wdat
    rw [PySem.W.alike]
    exact alike_all u v
  · rw [dataLt_word]
    exact q
end

/-! ### sorted(d.keys()) -/
def keysO (p d : Addr) : HO := .ext fun h => PySem.W.KdlKeysView h p d
theorem keysO_ok {P : Program} {w : World} {H : Hp} {h : Heap} {p d : Addr} (e : h.get? p = some { cls := .type "dict_keys", data := .fields #[.ref d] }) : ObjOk P w H h p (keysO p d) :=
  ⟨⟨_, e, rfl, rfl⟩, ⟨_, e⟩, fun h1 h2 x k => let ⟨o, objD, rel0⟩ := x; ⟨o, k o objD, rel0⟩⟩
section
variable {X : Cx}
def rKeysT : V → List V → Hp → VK → Prop := fun x xs H Q => ∃ (a : Addr) (kvs : List (List L2.Key × V)), x = .ref a ∧ xs = [] ∧ H a = some (.dT kvs) ∧ ∀ p, H p = none → Q (.ref p) (upd H p (keysO p a))
theorem mt_keysT : MtR X "dict.keys" rKeysT := by
  intro pins s σ H x xs v us Q I relX relXs ask
  obtain ⟨a, kvs, rfl, rfl, atA, q⟩ := ask
  cases relX
  cases relXs
  obtain ⟨z, notSys, trip, rel, o, es, ep, objD, exactD, dataD, _⟩ := dt_of I.hok atA
  have asRaw : s.heap.DictRaw a es ep := ⟨o, objD, exactD, dataD⟩
  refine call_meetsIn F.slot_dict_keys asRaw.typeIs F.entry_dict_keys (F.args_dict_keys_1 _) (meets_dict_keys_raw a notSys) ⟨⟨es, ep, asRaw⟩, ?_⟩
  have newK : H s.heap.objs.size = none := I.hok.fresh (Nat.le_refl _)
  exact ⟨.ref s.heap.objs.size, upd H s.heap.objs.size (keysO s.heap.objs.size a), I.laid (t' := s.toks) (fun b u e => Heap.get?_push_of_some _ e) (Nat.le_refl _) (keysO_ok (Heap.get?_push_size _ rfl)), rfl, q _ newK⟩
theorem reads_ints {h : Heap} : ∀ {d : List Nat} {its : List Value}, Vals (iv d) its → ReadsAll h its (d.map fun x : Nat => PyData.int (x : Int)) []
  | [], _, rel0 => by
    cases rel0
    exact .nil
  | x :: d, _, rel0 => by
    have rel0 : Vals (V.int (x : Int) :: iv d) _ := rel0
    cases rel0 with
    | cons r1 r2 =>
      obtain ⟨t, rfl⟩ := r1
      exact ReadsAll.cons (as := []) (bs := []) (Reads.int _ t) (reads_ints r2)
theorem each_of {α β : Type} {R : α → β → Prop} : ∀ {xs : List α} {ys : List β}, xs.length = ys.length → (∀ (i : Nat) (x : α) (y : β), xs[i]? = some x → ys[i]? = some y → R x y) → PySem.W.EachIs R xs ys
  | [], [], _, _ => .nil
  | x :: xs, y :: ys, h, k => .cons (k 0 x y rfl rfl) (each_of (by simpa using h) fun i x y h1 h2 => k (i + 1) x y (by simpa using h1) (by simpa using h2))
  | [], _ :: _, h, _ => by simp at h
  | _ :: _, [], h, _ => by simp at h
theorem each_refs {R : Value → List Nat → Prop} {f : Value → Option Addr} (newK : ∀ v d, R v d → ∃ q, v = .ref q) : ∀ {out : List Value} {ds : List (List Nat)}, PySem.W.EachIs R out ds → ∃ qs : List Addr, out = qs.map Value.ref ∧ ∀ q ∈ qs, ∃ d ∈ ds, R (.ref q) d
  | _, _, .nil => ⟨[], rfl, fun _ h => (nomatch h)⟩
  | _, _, .cons rel0 t => by
    obtain ⟨q, rfl⟩ := newK _ _ rel0
    obtain ⟨qs, e, k⟩ := each_refs (f := f) newK t
    refine ⟨q :: qs, by rw [e]; rfl, fun p hp => ?_⟩
    rcases List.mem_cons.mp hp with rfl | hp
    · exact ⟨_, List.mem_cons_self, rel0⟩
    · obtain ⟨d, notSys, z⟩ := k p hp
      exact ⟨d, List.mem_cons_of_mem _ notSys, z⟩
theorem vals_refs : ∀ qs : List Addr, Vals (qs.map V.ref) (qs.map Value.ref)
  | [] => .nil
  | _ :: qs => .cons rfl (vals_refs qs)
def rSortedK : List V → Hp → VK → Prop := fun vs H Q => ∃ (p a : Addr) (kvs : List (List L2.Key × V)) (ds : List (List Nat)), vs = [.ref p] ∧ H p = some (keysO p a) ∧ H a = some (.dT kvs) ∧ kvs.map (·.1) = ds.map ik ∧ (∀ d ∈ ds, d ≠ []) ∧
  ∀ (l : Addr) (qs : List Addr), H l = none → qs.length = kvs.length → (∀ q ∈ qs, ∃ d ∈ ds, H q = some (.tup (iv d))) → Q (.ref l) (upd H l (.lst (qs.map V.ref)))
theorem cr_sortedK (hc : X.calm = true) (hu : X.A.units + 64 < cLine) : CallR X (.builtin "sorted") rSortedK := by
  intro pins s σ H xs us Q I rel0 h
  obtain ⟨p, a, kvs, ds, rfl, hp, ha, hk, hne, q⟩ := h
  obtain rfl := Vals.ref1 rel0
  have view : PySem.W.KdlKeysView s.heap p a := (show ObjOk X.prog X.w H s.heap p (keysO p a) from I.hok p _ hp).1
  obtain ⟨z, notSys, trip, rel, o, es, ep, objD, exactD, dataD, entD, _⟩ := dt_of I.hok ha
  have asRaw : s.heap.DictRaw a es ep := ⟨o, objD, exactD, dataD⟩
  have l1 : kvs.length = trip.length := Paired.length rel
  have sizeE : es.size = trip.length := size_of_entries entD
  have l3 : ds.length = kvs.length := by
    have := congrArg List.length hk
    rw [List.length_map, List.length_map] at this
    exact this.symm
  have calmA : X.A.handled = none := I.ok.hd hc
  -- the i-th entry's key
  have ent : ∀ (j : Nat) (v : Value), (∃ hi : j < es.size, v = es[j].key) → ∃ q d, v = Value.ref q ∧ ds[j]? = some d ∧ H q = some (.tup (iv d)) := by
    rintro j v ⟨hi, rfl⟩
    have hj : j < trip.length := by omega
    obtain ⟨e0, he0, r1, r2, r3⟩ := all2_getR rel (List.getElem?_eq_getElem hj)
    have hent := entry_at entD j
    rw [List.getElem?_eq_getElem hj, Array.getElem?_eq_getElem hi] at hent
    have een : es[j] = entryOfKey (tupleKind (mixKind X.prog X.w)) trip[j] := Option.some.inj hent
    have hd' : ds[j]? = some (ds[j]'(by omega)) := List.getElem?_eq_getElem _
    have ek : e0.1 = ik (ds[j]'(by omega)) := by
      have : (kvs.map (·.1))[j]? = (ds.map ik)[j]? := by rw [hk]
      rw [List.getElem?_map, List.getElem?_map, he0, hd'] at this
      exact Option.some.inj this
    refine ⟨trip[j].2.1, ds[j]'(by omega), by rw [een]; rfl, hd', ?_⟩
    rw [← ik_kV, ← ek]
    exact r2
  have fewE : es.size ≤ sizeLine := by omega
  refine Calls.call_function_entry kind_sorted plain_sorted entry_sorted (args_sorted1 _) ?_
  unfold Builtin.«sorted»
  refine wpAny_bind (m := checkCount "sorted" 1 1 _) (wpAny_pure ?_)
  refine wpAny_bind (PySem.W.kdu_collect (A := X.A.in1) (KdlSrc.rawKeys (r := p) (d := a) (es := es) (ep := ep)) calmA ⟨view, asRaw⟩ fewE fun h' tk acc hk' hacc => ?_)
  have lenAcc : acc.toList.length = es.size := by rw [Array.length_toList]; exact hacc.1
  refine wpAny_bind (wpAny_newList ?_ (by rw [lenAcc]; exact fewE))
  -- the list to be sorted
  have hob : (h'.push { cls := .type "list", data := .seq acc.toList.toArray }).get? h'.objs.size = some (seqObj "list" acc.toList.toArray 0) := Heap.get?_push_size _ rfl
  have kb : ∀ b o, s.heap.get? b = some o → (h'.push { cls := .type "list", data := .seq acc.toList.toArray }).get? b = some o := fun b o e => Heap.get?_push_of_some _ (hk' b o e)
  have ne0 : ∀ b o, s.heap.get? b = some o → b ≠ h'.objs.size ∧ b < h'.objs.size := fun b o e => ⟨Nat.ne_of_lt (Heap.lt_size (hk' b o e)), Heap.lt_size (hk' b o e)⟩
  have hz2 : (h'.push { cls := .type "list", data := .seq acc.toList.toArray }).objs.size = h'.objs.size + 1 := Heap.size_push ..
  generalize hh2 : h'.push { cls := .type "list", data := .seq acc.toList.toArray } = h2 at hob kb hz2 ⊢
  have item : ∀ (j : Nat) (v : Value) (d : List Nat), acc.toList[j]? = some v → ds[j]? = some d → ∃ q, v = Value.ref q ∧ H q = some (.tup (iv d)) := fun j v d h1 h2 => by
    obtain ⟨q, d', e1, e2, e3⟩ := ent j v (hacc.2 j v (by rw [← Array.getElem?_toList]; exact h1))
    rw [h2] at e2
    cases e2
    exact ⟨q, e1, e3⟩
  have lens : acc.toList.length = ds.length := by omega
  let R : Value → List Nat → Prop := fun v d => (∃ q, v = Value.ref q ∧ H q = some (.tup (iv d)))
  have eR : PySem.W.EachIs R acc.toList ds := each_of lens item
  have eRd : PySem.W.EachIs (fun v d => ∃ as, Reads h2 v (idat d) as ∧ h'.objs.size ∉ as) acc.toList ds := each_of lens fun j v d h1 h2' => by
    obtain ⟨q, rfl, hq⟩ := item j v d h1 h2'
    obtain ⟨zz, its, rv, ob, hob', hcl, nn, hdt⟩ := I.hok q _ hq
    refine ⟨[], Reads.tuple (kb _ _ hob') hcl hdt ?_, fun h => (nomatch h)⟩
    rw [List.toList_toArray]
    exact reads_ints rv
  have hal : PySem.W.AllAlike (ds.map idat) := PySem.W.AllAlike.of fun b b' => by
    unfold idat
    rw [PySem.W.alike]
    have e : ∀ l : List Nat, l.map (fun x : Nat => PyData.int (x : Int)) = (ii l).map PyData.int := fun l => by unfold ii; rw [List.map_map]; rfl
    rw [e, e]
    exact PySem.W.alike_ints _ _
  have hs : PySem.W.Sortable (ds.map idat) := .inl fun d notSys => by
    obtain ⟨b, hb, rfl⟩ := List.mem_map.mp notSys
    cases b with
    | nil => exact absurd rfl (hne [] hb)
    | cons x b => exact ⟨.int (x : Int), _, rfl⟩
  have dep : ∀ b : List Nat, (idat b).depth = 1 := fun b => by
    unfold idat
    rw [PyData.depth]
    have e : b.map (fun x : Nat => PyData.int (x : Int)) = (ii b).map PyData.int := by unfold ii; rw [List.map_map]; rfl
    rw [e, PySem.W.depth_ints]
  have go := PySem.W.list_sort_data (prog := X.prog) (w := X.w) (A := X.A.in1) (E := X.xe) (s := { s with heap := h2, toks := tk }) (a := h'.objs.size) (vs := acc.toList) (n := 0) (bs := ds) (enc := idat) (R := R)
    (Q := fun _ s' => EP X pins σ Q (.ref h'.objs.size) s') hob eR eRd hal hs (by omega) (fun b _ => by rw [dep]; show X.A.units + 1 + 1 + 1 < cLine; omega) (fun out hout eo => ?_)
  · refine wpAny_bind (wpAny_holding (wpAny_mono go (fun _ s' x => ?_) fun _ _ e => e))
    exact wpAny_pure ⟨_, rfl, x⟩
  · obtain ⟨qs, rfl, hqs⟩ := each_refs (f := fun _ => none) (fun v d ⟨q, e, _⟩ => ⟨q, e⟩) eo
    obtain ⟨c, hc'⟩ := sortedHeap_at (out := (qs.map Value.ref).toArray) hob
    have InvB : Inv X pins σ H { s with heap := h', toks := tk } := I.kept (t' := tk) hk'
    have hnl : H h'.objs.size = none := InvB.hok.fresh (Nat.le_refl _)
    have hmem : ∀ q ∈ qs, ∃ d ∈ ds, H q = some (.tup (iv d)) := fun q hq => by
      obtain ⟨d, notSys, q', e', h3⟩ := hqs q hq
      cases e'
      exact ⟨d, (List.mergeSort_perm ds _).mem_iff.mp notSys, h3⟩
    have hql : qs.length = kvs.length := by
      rw [List.length_map] at hout
      omega
    have ks : ∀ b u, h'.get? b = some u → (sortedHeap h2 h'.objs.size acc.toList (qs.map Value.ref).toArray).get? b = some u := fun b u e => by
      have hb := Heap.lt_size e
      rw [sortedHeap_old (Nat.ne_of_lt hb) (by rw [hz2]; exact Nat.lt_succ_of_lt hb), ← hh2]
      exact Heap.get?_push_of_some _ e
    have new : ObjOk X.prog X.w (upd H h'.objs.size (.lst (qs.map V.ref))) (sortedHeap h2 h'.objs.size acc.toList (qs.map Value.ref).toArray) h'.objs.size (.lst (qs.map V.ref)) :=
      ⟨by rw [List.length_map, hql]; exact z, qs.map Value.ref, c, vals_refs qs, hc'⟩
    exact ⟨.ref h'.objs.size, _, InvB.laid (t' := tk) ks (Nat.le_refl _) new, rfl, q _ qs hnl hql hmem⟩
end
end CK

/-! Calls by name, built-ins by name, in few words -/
namespace CK
open PySem PySem.Spec PyProof.Rows L2

/-- the def called x keeps the promise sp, at level n -/
structure Cal (P : Program) (w : World) (K : PySem.W.Frag) (mg : Str → Option Value) (base : Heap) (n : Nat) (x : Str) (ps : List Str) (sp : Sp) : Prop where
  ex : ∃ (f : Addr) (fd : FuncData), FnOk P w K mg base CX0 n f fd ps sp ∧ mg x = some (.ref f) ∧ PySem.W.keepIn K (.ref f) = true ∧ Binds K fd ps []
section
variable {X : Cx}
theorem pe_cal {n k : Nat} {x : Str} {ps : List Str} {sp : Sp} {e : Expr} {es : List Expr} {t : TA} {p pos : Pos} (C : Cal X.prog X.w X.K X.mg X.base n x ps sp) (hr : Room k X.A) (hle : n ≤ k) (hg : Gl X x) (ha : PA X (e :: es) t)
    (ndb : (x == ("__debug__" : Str)) = false := by decide)
    (stars : starEach (e :: es) X.env = (false, eval e X.env) :: starEach es X.env := by rfl)
    (plain : (backTo pos (starEach es X.env)).any (·.1) = false := by rfl) :
    PE X (.Call (.Name x p) (e :: es) [] pos) (tCall sp [] E0 t) := by
  obtain ⟨f, fd, F, m, kp, b⟩ := C.ex
  exact pe_call F (hr.mono hle) hg m kp b .nil pass0 ha ndb stars plain
/-- a number of the module -/
theorem pe_num {x : Str} {i : Int} {pos : Pos} (hg : Gl X x) (hm : ∃ t, X.mg x = some (.int i t)) (hd : (x == ("__debug__" : Str)) = false := by decide) : PE X (.Name x pos) (tC (.int i)) := by
  obtain ⟨t, m⟩ := hm
  exact pe_glob hg m ⟨t, rfl⟩ hd
end
/-- what the module has written of these names -/
structure Bi (mg : Str → Option Value) : Prop where
  isi : mg "isinstance" = none
  len : mg "len" = none
  tuple : mg "tuple" = none
  int : mg "int" = none
  bool : mg "bool" = none
  list : mg "list" = none
  str : mg "str" = none
  abs : mg "abs" = none
  range : mg "range" = none
  enum : mg "enumerate" = none
  sorted : mg "sorted" = none
  set : mg "set" = none
  min : mg "min" = none
  clocks : ∃ t, mg "MOST_CLOCKS" = some (.int 7 t)
  least : ∃ t, mg "LEAST_HOURS" = some (.int 2 t)
  most : ∃ t, mg "MOST_HOURS" = some (.int 24 t)
  dials : ∃ t, mg "MOST_DIALS" = some (.int 4096 t)
theorem bt_isi : bootBuiltins "isinstance" = some (.builtin "isinstance") := by decide +kernel
theorem bt_len : bootBuiltins "len" = some (.builtin "len") := by decide +kernel
theorem bt_tuple : bootBuiltins "tuple" = some (.type "tuple") := by decide +kernel
theorem bt_int : bootBuiltins "int" = some (.type "int") := by decide +kernel
theorem bt_bool : bootBuiltins "bool" = some (.type "bool") := by decide +kernel
theorem bt_list : bootBuiltins "list" = some (.type "list") := by decide +kernel
theorem bt_str : bootBuiltins "str" = some (.type "str") := by decide +kernel
theorem bt_abs : bootBuiltins "abs" = some (.builtin "abs") := by decide +kernel
theorem bt_sorted : bootBuiltins "sorted" = some (.builtin "sorted") := by decide +kernel
theorem bt_set : bootBuiltins "set" = some (.type "set") := by decide +kernel
theorem bt_min : bootBuiltins "min" = some (.builtin "min") := by decide +kernel

/-! ### isinstance -/
inductive Ty (H : Hp) : V → String → Prop where
  | non : Ty H .non "NoneType"
  | bl (x : Bool) : Ty H (.bl x) "bool"
  | int (i : Int) : Ty H (.int i) "int"
  | lst {a : Addr} {xs : List V} (e : H a = some (.lst xs)) : Ty H (.ref a) "list"
  | tup {v : V} {xs : List V} (e : IsT H v xs) : Ty H v "tuple"
theorem Ty.x {K : PySem.W.Frag} {H : Hp} {v : V} {t : String} (h : Ty H v t) : TyX K H v (.type t) := by
  cases h with
  | non => exact .base .non
  | bl x => exact .base (.bl x)
  | int i => exact .base (.int i)
  | lst e => exact .base (.lst e)
  | tup e =>
    obtain ⟨a, rfl, e⟩ := e
    exact .base (.tup e)
theorem kb_ii : kitB "int" "int" = some true := by decide +kernel
theorem kb_ib : kitB "int" "bool" = some false := by decide +kernel
theorem kb_tt : kitB "tuple" "tuple" = some true := by decide +kernel
theorem kb_tl : kitB "tuple" "list" = some false := by decide +kernel
theorem kb_it : kitB "int" "tuple" = some false := by decide +kernel
theorem kb_il : kitB "int" "list" = some false := by decide +kernel
theorem kb_is : kitB "int" "str" = some false := by decide +kernel
theorem kb_nt : kitB "NoneType" "tuple" = some false := by decide +kernel
theorem kb_nl : kitB "NoneType" "list" = some false := by decide +kernel
theorem kb_ns : kitB "NoneType" "str" = some false := by decide +kernel
section
variable {X : Cx}
/-- isinstance(x, T) -/
def rIs : List V → Hp → VK → Prop := fun vs H Q => ∃ x T t b, vs = [x, .ty T] ∧ Ty H x t ∧ kitB t T = some b ∧ Q (.bl b) H
theorem call_is : CallR X (.builtin "isinstance") rIs := CallR.imp call_isi fun vs H Q h => by
  obtain ⟨x, T, t, b, rfl, ty, k, q⟩ := h
  exact ⟨x, .ty T, .type t, .type T, b, rfl, .ty T, ty.x, kit_ty k, q⟩
/-- isinstance(x, (T, U)), the tuple just laid -/
def rIs2 : List V → Hp → VK → Prop := fun vs H Q => ∃ x p T U t b c, vs = [x, .ref p] ∧ H p = some (.tup [.ty T, .ty U]) ∧ Ty H x t ∧ kitB t T = some b ∧ kitB t U = some c ∧ Q (.bl (b || c)) H
theorem call_is2 : CallR X (.builtin "isinstance") rIs2 := CallR.imp call_isiT fun vs H Q h => by
  obtain ⟨x, p, T, U, t, b, c, rfl, hp, ty, k1, k2, q⟩ := h
  refine ⟨x, p, _, .type t, [.type T, .type U], b || c, rfl, hp, .cons (.ty T) (.cons (.ty U) .nil), ty.x, ?_, q⟩
  refine kitAny_cons (kit_ty k1) (fun e => ?_) (fun e => by rw [e]; rfl)
  rw [e]
  refine kitAny_cons (kit_ty k2) (fun e2 => ?_) (fun e2 => e2)
  rw [e2]
  exact kitAny_nil
/-- len of a tuple, of a list -/
def rLenT : List V → Hp → VK → Prop := fun vs H Q => ∃ x xs, vs = [x] ∧ IsT H x xs ∧ Q (.int (xs.length : Int)) H
theorem call_lenT : CallR X (.builtin "len") rLenT := CallR.imp call_len_seq fun vs H Q h => by
  obtain ⟨x, xs, rfl, ⟨a, rfl, e⟩, q⟩ := h
  exact ⟨a, xs, rfl, .inr (SqT.of e), q⟩
def rLenL (K : PySem.W.Frag) : List V → Hp → VK → Prop := fun vs H Q => ∃ p xs, vs = [.ref p] ∧ SqL K H p xs ∧ Q (.int (xs.length : Int)) H
theorem call_lenL : CallR X (.builtin "len") (rLenL X.K) := CallR.imp call_len_seq fun vs H Q h => by
  obtain ⟨p, xs, rfl, e, q⟩ := h
  exact ⟨p, xs, rfl, .inl e, q⟩
/-- tuple(a list) -/
def rTupL (K : PySem.W.Frag) : List V → Hp → VK → Prop := fun vs H Q => ∃ p xs, vs = [.ref p] ∧ SqL K H p xs ∧ ∀ l, H l = none → Q (.ref l) (upd H l (.tup xs))
theorem call_tupL : CallR X (.type "tuple") (rTupL X.K) := CallR.imp call_tuple_of fun vs H Q h => by
  obtain ⟨p, xs, rfl, e, q⟩ := h
  exact ⟨p, xs, rfl, .inl ⟨e, q⟩⟩
/-- int(n), int(flag) -/
def rIntI : List V → Hp → VK → Prop := fun vs H Q => ∃ i, vs = [.int i] ∧ Q (.int i) H
theorem call_intI : CallR X (.type "int") rIntI := CallR.imp call_int1 fun vs H Q h => by
  obtain ⟨i, rfl, q⟩ := h
  exact .inl ⟨i, rfl, q⟩
def rIntB : List V → Hp → VK → Prop := fun vs H Q => ∃ k, vs = [.bl k] ∧ Q (.int (if k then 1 else 0)) H
theorem call_intB : CallR X (.type "int") rIntB := CallR.imp call_int1 fun vs H Q h => by
  obtain ⟨k, rfl, q⟩ := h
  exact .inr ⟨k, rfl, q⟩
/-- a type's name as a value -/
theorem pe_ty {x : Str} {T : String} {pos : Pos} (hg : Gl X x) (hm : X.mg x = none) (hv : bootBuiltins x = some (.type T)) (hn : x ≠ "__name__" := by decide) (hd : (x == ("__debug__" : Str)) = false := by decide) : PE X (.Name x pos) (tC (.ty T)) :=
  pe_bltn hg hm hv rfl hn hd
/-- == and != of tuples of whole numbers -/
def rEqI : R2 := fun x y H Q => ∃ d e, IsI H x d ∧ IsI H y e ∧ Q (.bl (decide (d = e))) H
def rNeI : R2 := fun x y H Q => ∃ d e, IsI H x d ∧ IsI H y e ∧ Q (.bl (!decide (d = e))) H
theorem eqv_ints : ∀ d e : List Nat, PyData.eqvAll (d.map fun x : Nat => PyData.int (x : Int)) (e.map fun x : Nat => PyData.int (x : Int)) = decide (d = e)
  | [], [] => by simp [PyData.eqvAll]
  | [], _ :: _ => by simp [PyData.eqvAll]
  | _ :: _, [] => by simp [PyData.eqvAll]
  | x :: d, y :: e => by
    show PyData.eqvAll (PyData.int (x : Int) :: d.map fun x : Nat => PyData.int (x : Int)) (PyData.int (y : Int) :: e.map fun x : Nat => PyData.int (x : Int)) = _
    rw [PyData.eqvAll, eqv_ints d e]
    simp only [PyData.eqv]
    rw [Bool.eq_iff_iff]
    simp
    omega
theorem eqv_idat (d e : List Nat) : PyData.eqv (idat d) (idat e) = decide (d = e) := by
  unfold idat
  rw [PyData.eqv, eqv_ints]
/-- data that can be compared, not deep -/
def Sd (n : Nat) (d : PyData) : Prop := d.canLay0 = true ∧ d.depth ≤ n
theorem sd_int (i : Int) : Sd 0 (.int i) := ⟨by simp [PyData.canLay0], by simp [PyData.depth]⟩
theorem sd_none : Sd 0 .none := ⟨by simp [PyData.canLay0], by simp [PyData.depth]⟩
theorem Sd.mono {n m : Nat} {d : PyData} (h : Sd n d) (k : n ≤ m) : Sd m d := ⟨h.1, Nat.le_trans h.2 k⟩
theorem sd_all {n : Nat} : ∀ {ds : List PyData}, (∀ d ∈ ds, Sd n d) → PyData.canLayAll0 ds = true ∧ PyData.depthAll ds ≤ n
  | [], _ => ⟨by simp [PyData.canLayAll0], by simp [PyData.depthAll]⟩
  | d :: ds, h => by
    have h1 := h d List.mem_cons_self
    have h2 := sd_all fun e he => h e (List.mem_cons_of_mem _ he)
    exact ⟨by rw [PyData.canLayAll0, h1.1, h2.1]; rfl, by rw [PyData.depthAll]; exact Nat.max_le.mpr ⟨h1.2, h2.2⟩⟩
theorem sd_list {n : Nat} {ds : List PyData} (h : ∀ d ∈ ds, Sd n d) : Sd (n + 1) (.list ds) := ⟨by rw [PyData.canLay0]; exact (sd_all h).1, by rw [PyData.depth]; exact Nat.succ_le_succ (sd_all h).2⟩
theorem sd_tuple {n : Nat} {ds : List PyData} (h : ∀ d ∈ ds, Sd n d) : Sd (n + 1) (.tuple ds) := ⟨by rw [PyData.canLay0]; exact (sd_all h).1, by rw [PyData.depth]; exact Nat.succ_le_succ (sd_all h).2⟩
theorem Sd.shaped {n : Nat} {d : PyData} (h : Sd n d) (k : n ≤ 60) : SeqAt.shaped d = true := by
  unfold SeqAt.shaped
  rw [h.1, Bool.true_and, decide_eq_true_iff]
  exact Nat.le_trans h.2 (by omega)
theorem sd_idat (d : List Nat) : Sd 1 (idat d) := sd_tuple fun e he => by
  obtain ⟨x, _, rfl⟩ := List.mem_map.mp he
  exact sd_int _
theorem op_eqI (hu : X.A.units + 64 < cLine) : OpR X (compareOp .Eq) rEqI := OpR.imp (op_eqD hu) fun x y H Q h => by
  obtain ⟨d, e, h1, h2, q⟩ := h
  exact ⟨idat d, idat e, dp_i h1, dp_i h2, (sd_idat d).shaped (by decide), (sd_idat e).shaped (by decide), by rw [eqv_idat]; exact q⟩
theorem op_neI (hu : X.A.units + 64 < cLine) : OpR X (compareOp .NotEq) rNeI := OpR.imp (op_neD hu) fun x y H Q h => by
  obtain ⟨d, e, h1, h2, q⟩ := h
  exact ⟨idat d, idat e, dp_i h1, dp_i h2, (sd_idat d).shaped (by decide), (sd_idat e).shaped (by decide), by rw [eqv_idat]; exact q⟩
/-- xs == [], xs != [] -/
def rEq0 (K : PySem.W.Frag) : R2 := fun x y H Q => ∃ p q xs ds, x = .ref p ∧ y = .ref q ∧ SqL K H p xs ∧ SqL K H q [] ∧ DpAll K H xs ds ∧ (∀ d ∈ ds, Sd 3 d) ∧ Q (.bl xs.isEmpty) H
def rNe0 (K : PySem.W.Frag) : R2 := fun x y H Q => ∃ p q xs ds, x = .ref p ∧ y = .ref q ∧ SqL K H p xs ∧ SqL K H q [] ∧ DpAll K H xs ds ∧ (∀ d ∈ ds, Sd 3 d) ∧ Q (.bl (!xs.isEmpty)) H
theorem eqv_nil {K : PySem.W.Frag} {H : Hp} {xs : List V} {ds : List PyData} (h : DpAll K H xs ds) : PyData.eqv (.list ds) (.list []) = xs.isEmpty := by
  cases h with
  | nil => simp [PyData.eqv, PyData.eqvAll]
  | cons _ _ => simp [PyData.eqv, PyData.eqvAll]
theorem op_eq0 (hu : X.A.units + 64 < cLine) : OpR X (compareOp .Eq) (rEq0 X.K) := OpR.imp (op_eqD hu) fun x y H Q h => by
  obtain ⟨p, q, xs, ds, rfl, rfl, h1, h2, h3, h4, k⟩ := h
  exact ⟨.list ds, .list [], .lst h1 h3, .lst h2 .nil, (sd_list h4).shaped (by decide), (sd_list (n := 0) (fun _ z => absurd z List.not_mem_nil)).shaped (by decide), by rw [eqv_nil h3]; exact k⟩
theorem op_ne0 (hu : X.A.units + 64 < cLine) : OpR X (compareOp .NotEq) (rNe0 X.K) := OpR.imp (op_neD hu) fun x y H Q h => by
  obtain ⟨p, q, xs, ds, rfl, rfl, h1, h2, h3, h4, k⟩ := h
  exact ⟨.list ds, .list [], .lst h1 h3, .lst h2 .nil, (sd_list h4).shaped (by decide), (sd_list (n := 0) (fun _ z => absurd z List.not_mem_nil)).shaped (by decide), by rw [eqv_nil h3]; exact k⟩
theorem dpa_ints {K : PySem.W.Frag} {H : Hp} (d : List Nat) : DpAll K H (iv d) (d.map fun x : Nat => PyData.int (x : Int)) := dp_ints d
theorem dpa_int {K : PySem.W.Frag} {H : Hp} : ∀ ns : List Int, DpAll K H (ns.map V.int) (ns.map PyData.int)
  | [] => .nil
  | n :: ns => .cons (.int n) (dpa_int ns)
theorem sd_ints (ns : List Int) : ∀ d ∈ ns.map PyData.int, Sd 3 d := fun d hd => by
  obtain ⟨x, _, rfl⟩ := List.mem_map.mp hd
  exact (sd_int x).mono (by decide)
theorem dpa_dials {K : PySem.W.Frag} {H : Hp} : ∀ {vs : List V} {ds : List (List Nat)}, All2 (IsI H) vs ds → DpAll K H vs (ds.map idat)
  | _, _, .nil => .nil
  | _, _, .cons r t => .cons (dp_i r) (dpa_dials t)
theorem sd_dials (ds : List (List Nat)) : ∀ d ∈ ds.map idat, Sd 3 d := fun d hd => by
  obtain ⟨x, _, rfl⟩ := List.mem_map.mp hd
  exact (sd_idat x).mono (by decide)
end

/-! ### lists that the def itself has made -/
theorem room65 {k : Nat} {A : Around} (r : Room k A) : A.units + 65 < cLine := by have := r.un; omega
section
variable {X : Cx}
theorem IxR.imp {r r' : R2} (h : IxR X r) (k : ∀ x y H Q, r' x y H Q → r x y H Q) : IxR X r' :=
  fun value slice pins s σ H x y v u Q I rx ry q hs => h value slice pins s σ H x y v u Q I rx ry (k _ _ _ _ q) hs
/-- xs[i] -/
def rIxl : R2 := fun x y H Q => ∃ p xs i v, x = .ref p ∧ y = .int i ∧ H p = some (.lst xs) ∧ atI xs i = some v ∧ Q v H
theorem ix_l : IxR X rIxl := IxR.imp ix_list fun x y H Q h => by
  obtain ⟨p, xs, i, v, rfl, rfl, hp, hv, q⟩ := h
  exact ⟨p, xs, i, v, rfl, rfl, SqL.of hp, hv, q⟩
/-- n in xs, n not in xs, of whole numbers -/
def rInI (neg : Bool) : R2 := fun x y H Q => ∃ (n : Nat) (p : Addr) (d : List Nat), x = .int (n : Int) ∧ y = .ref p ∧ H p = some (.lst (iv d)) ∧ Q (.bl (if neg then !decide (n ∈ d) else decide (n ∈ d))) H
theorem flat_iv : ∀ d : List Nat, (iv d).all flatV = true
  | [] => rfl
  | x :: d => by
    show (V.int (x : Int) :: iv d).all flatV = true
    rw [List.all_cons, flat_iv d]
    rfl
theorem inV_iv (n : Nat) : ∀ d : List Nat, inV (.int (n : Int)) (iv d) = decide (n ∈ d)
  | [] => rfl
  | x :: d => by
    have ih := inV_iv n d
    unfold inV at ih ⊢
    show (V.int (x : Int) :: iv d).any (fun y => eqV y (.int (n : Int))) = _
    rw [List.any_cons, ih]
    have e : eqV (V.int (x : Int)) (V.int (n : Int)) = decide (x = n) := by
      show ((x : Int) == (n : Int)) = decide (x = n)
      rw [Bool.eq_iff_iff, beq_iff_eq, decide_eq_true_iff]
      omega
    rw [e, Bool.eq_iff_iff, Bool.or_eq_true, decide_eq_true_iff, decide_eq_true_iff, decide_eq_true_iff, List.mem_cons]
    exact ⟨fun h => h.elim (fun z => .inl z.symm) .inr, fun h => h.elim (fun z => .inl z.symm) .inr⟩
theorem op_inI : OpR X (compareOp .In) (rInI false) := OpR.imp op_in_seq fun x y H Q h => by
  obtain ⟨n, p, d, rfl, rfl, hp, q⟩ := h
  exact ⟨p, iv d, rfl, .inl (SqL.of hp), rfl, flat_iv d, by rw [inV_iv]; exact q⟩
theorem op_notInI : OpR X (compareOp .NotIn) (rInI true) := OpR.imp op_notIn_seq fun x y H Q h => by
  obtain ⟨n, p, d, rfl, rfl, hp, q⟩ := h
  exact ⟨p, iv d, rfl, .inl (SqL.of hp), rfl, flat_iv d, by rw [inV_iv]; exact q⟩

/-- a list of whole numbers, of dials -/
def Sim (H : Hp) (xs : List V) : Prop := (∃ ns : List Int, xs = ns.map V.int) ∨ ∃ ds, All2 (IsI H) xs ds
theorem sim_iv {H : Hp} (d : List Nat) : Sim H (iv d) := .inl ⟨ii d, (iv_ii d).symm⟩
theorem sim_int {H : Hp} (ns : List Int) : Sim H (ns.map V.int) := .inl ⟨ns, rfl⟩
theorem sim_nil {H : Hp} : Sim H [] := .inl ⟨[], rfl⟩
def rEqE : R2 := fun x y H Q => ∃ p q xs, x = .ref p ∧ y = .ref q ∧ H p = some (.lst xs) ∧ H q = some (.lst []) ∧ Sim H xs ∧ Q (.bl xs.isEmpty) H
def rNeE : R2 := fun x y H Q => ∃ p q xs, x = .ref p ∧ y = .ref q ∧ H p = some (.lst xs) ∧ H q = some (.lst []) ∧ Sim H xs ∧ Q (.bl (!xs.isEmpty)) H
theorem Sim.dp {K : PySem.W.Frag} {H : Hp} {xs : List V} (h : Sim H xs) : ∃ ds, DpAll K H xs ds ∧ ∀ d ∈ ds, Sd 3 d := by
  rcases h with ⟨ns, rfl⟩ | ⟨ds, h⟩
  · exact ⟨_, dpa_int ns, sd_ints ns⟩
  · exact ⟨_, dpa_dials h, sd_dials ds⟩
theorem op_eqE (hu : X.A.units + 64 < cLine) : OpR X (compareOp .Eq) rEqE := OpR.imp (op_eq0 hu) fun x y H Q h => by
  obtain ⟨p, q, xs, rfl, rfl, h1, h2, h3, k⟩ := h
  obtain ⟨ds, d1, d2⟩ := h3.dp (K := X.K)
  exact ⟨p, q, xs, ds, rfl, rfl, SqL.of h1, SqL.of h2, d1, d2, k⟩
theorem op_neE (hu : X.A.units + 64 < cLine) : OpR X (compareOp .NotEq) rNeE := OpR.imp (op_ne0 hu) fun x y H Q h => by
  obtain ⟨p, q, xs, rfl, rfl, h1, h2, h3, k⟩ := h
  obtain ⟨ds, d1, d2⟩ := h3.dp (K := X.K)
  exact ⟨p, q, xs, ds, rfl, rfl, SqL.of h1, SqL.of h2, d1, d2, k⟩
end
end CK

/-! Comprehensions by what each turn gives -/
namespace CK
open PySem PySem.Spec PyProof.Rows L2

/-- us is what the first i turns gave -/
inductive Outs (R : Nat → V → Prop) (S : Nat → Prop) : Nat → List V → Prop where
  | zero : Outs R S 0 []
  | take {i : Nat} {us : List V} {y : V} : Outs R S i us → R i y → Outs R S (i + 1) (us ++ [y])
  | skip {i : Nat} {us : List V} : Outs R S i us → S i → Outs R S (i + 1) us
theorem Outs.imp {R R' : Nat → V → Prop} {S : Nat → Prop} {n : Nat} {us : List V} (h : Outs R S n us) (k : ∀ i y, R i y → R' i y) : Outs R' S n us := by
  induction h with
  | zero => exact .zero
  | take _ r ih => exact .take ih (k _ _ r)
  | skip _ s ih => exact .skip ih s
theorem Outs.len {R : Nat → V → Prop} {S : Nat → Prop} {n : Nat} {us : List V} (h : Outs R S n us) : us.length ≤ n := by
  induction h with
  | zero => exact Nat.le_refl _
  | take _ _ ih => rw [List.length_append, List.length_singleton]; omega
  | skip _ _ ih => omega
/-- all turns give: item by item -/
theorem Outs.all {R : Nat → V → Prop} {n : Nat} {us : List V} (h : Outs R (fun _ => False) n us) : us.length = n ∧ ∀ i y, us[i]? = some y → R i y := by
  generalize hS : (fun _ : Nat => False) = S at h
  induction h with
  | zero => exact ⟨rfl, fun i y h => by simp at h⟩
  | @take i us y _ r ih =>
    obtain ⟨a, b⟩ := ih
    refine ⟨by rw [List.length_append, List.length_singleton, a], fun j z hz => ?_⟩
    rw [List.getElem?_append] at hz
    split at hz
    · exact b j z hz
    · have : j - us.length = 0 := by
        cases e : j - us.length with
        | zero => rfl
        | succ m => rw [e] at hz; simp at hz
      rw [this] at hz
      simp at hz
      have hj : j = i := by omega
      subst hj; subst hz
      exact r
  | skip _ s _ =>
    rw [← hS] at s
    exact s.elim
/-- what a filter gives -/
theorem Outs.filter {R : Nat → V → Prop} {S : Nat → Prop} {n : Nat} {us : List V} (h : Outs R S n us) {f : Nat → V} {p : Nat → Bool} (hR : ∀ i y, R i y → y = f i ∧ p i = true) (hS : ∀ i, S i → p i = false) :
    us = ((List.range n).filter p).map f := by
  induction h with
  | zero => rfl
  | take _ r ih =>
    obtain ⟨e, k⟩ := hR _ _ r
    rw [List.range_succ, List.filter_append, List.map_append, ← ih, e, List.filter_cons, if_pos k]
    rfl
  | skip _ s ih =>
    rw [List.range_succ, List.filter_append, List.map_append, ← ih, List.filter_cons, if_neg (by rw [hS _ s]; decide)]
    simp
/-- what a filter of a list gives -/
theorem Outs.filterL {R : Nat → V → Prop} {S : Nat → Prop} {n : Nat} {us : List V} (h : Outs R S n us) {ds : List Nat} {p : Nat → Bool} (hn : n ≤ ds.length) (hR : ∀ i y, i < ds.length → R i y → y = .int ((ds.getD i 0 : Nat) : Int) ∧ p (ds.getD i 0) = true) (hS : ∀ i, i < ds.length → S i → p (ds.getD i 0) = false) :
    us = iv ((ds.take n).filter p) := by
  have step : ∀ i, i < ds.length → ds.take (i + 1) = ds.take i ++ [ds.getD i 0] := fun i hi => by
    rw [List.take_add_one, List.getElem?_eq_getElem hi, List.getD_eq_getElem?_getD, List.getElem?_eq_getElem hi]
    rfl
  induction h with
  | zero => rfl
  | @take i us y _ r ih =>
    obtain ⟨e, k⟩ := hR _ _ hn r
    rw [step i hn, List.filter_append, ih (Nat.le_of_succ_le hn), e, List.filter_cons, if_pos k]
    unfold iv
    rw [List.map_append]
    rfl
  | @skip i us _ s ih =>
    rw [step i hn, List.filter_append, List.filter_cons, if_neg (by rw [hS _ hn s]; decide), List.filter_nil, List.append_nil]
    exact ih (Nat.le_of_succ_le hn)
/-- nothing is given -/
theorem Outs.none {R : Nat → V → Prop} {S : Nat → Prop} {n : Nat} {us : List V} (h : Outs R S n us) (hR : ∀ i y, ¬ R i y) : us = [] := by
  induction h with
  | zero => rfl
  | take _ r _ => exact (hR _ _ r).elim
  | skip _ _ ih => exact ih

/-- what a reading of a comprehension asks: a word between its turns -/
abbrev LcGoal (J : It) (g : TG) (tt : TT) (te : TE) (vs : List Nat) (σ : L2.St) (H1 : Hp) (D : Addr) (Qd : Hp → Prop) : Prop :=
  ∃ Wd : Nat → Nat → Hp → Prop, (∃ c, Wd 0 c (upd H1 D (.lst []))) ∧ ∀ i c A, Wd i c A → (J.stop i A ∧ Qd A) ∨ (J.go i A ∧ ∃ Aft : Hp → Prop, (∀ B, Aft B → ∃ c', c' < c ∧ Wd (i + 1) c' B) ∧
    ∀ x B, J.yld i A x B → g x (wipe σ vs) B fun σ2 B2 => wipe σ2 vs = wipe σ vs ∧ tt σ2 B2 fun b B3 => if b = true then te σ2 B3 fun y B4 => ∃ acc, B4 D = some (.lst acc) ∧ acc.length < sizeLine ∧ Aft (upd B4 D (.lst (acc ++ [y]))) else Aft B3)
section
variable {J : It} {n : Nat} {G : Hp → Prop}
variable {Y : Nat → Hp → V → Hp → Prop}
/-- a comprehension whose turns keep all that stood -/
theorem comp_it (wk : Walk J n G Y) {g : TG} {tt : TT} {te : TE} {vs : List Nat} {σ : L2.St} {H1 : Hp} {D : Addr} {Qd : Hp → Prop} (hD : H1 D = none) (R : Nat → V → Hp → Prop) (S : Nat → Prop) (hn : n < 100000)
    (hG : ∀ H, Ex H1 H → G H) (hY : ∀ i H x H', Y i H x H' → Ex H H') (hR : ∀ i y H H' acc, H D = some (.lst acc) → Eb D H H' → R i y H → R i y H')
    (hs : ∀ i x H H', i < n → Ex H1 H → (∃ acc, H D = some (.lst acc)) → Y i H x H' → ∀ (Q1 : VK) (Q2 : Hp → Prop), (∀ y H4, Ex H' H4 → R i y H4 → Q1 y H4) → (∀ H3, Ex H' H3 → S i → Q2 H3) →
      g x (wipe σ vs) H' fun σ2 H2 => wipe σ2 vs = wipe σ vs ∧ tt σ2 H2 fun b H3 => if b = true then te σ2 H3 Q1 else Q2 H3)
    (hd : ∀ us H', Ex H1 H' → H' D = some (.lst us) → Outs (fun i y => R i y H') S n us → Qd H') :
    LcGoal J g tt te vs σ H1 D Qd := by
  refine lc_it wk (fun i H => Ex H1 H ∧ ∃ us, H D = some (.lst us) ∧ Outs (fun i y => R i y H) S i us) ⟨Ex.new hD, [], upd_same, .zero⟩ (fun i H _ p => hG H p.1) ?_ (fun H p => ?_)
  · rintro i x H H' hi ⟨e, us, hus, outs⟩ hy
    have e1 := hY i H x H' hy
    refine hs i x H H' hi e ⟨us, hus⟩ hy _ _ (fun y H4 e4 r => ?_) (fun H3 e3 s => ?_)
    · have h4 : H4 D = some (.lst us) := e4 _ _ (e1 _ _ hus)
      refine ⟨us, h4, Nat.lt_of_le_of_lt outs.len (Nat.lt_trans (Nat.lt_trans hi hn) (by decide)), Ex.mut ((e.trans e1).trans e4) hD, us ++ [y], upd_same, ?_⟩
      refine .take (outs.imp fun j z rz => hR j z _ _ _ h4 Eb.put (hR j z _ _ _ hus (Eb.of (e1.trans e4)) rz)) (hR i y _ _ _ h4 Eb.put r)
    · exact ⟨(e.trans e1).trans e3, us, e3 _ _ (e1 _ _ hus), .skip (outs.imp fun j z rz => hR j z _ _ _ hus (Eb.of (e1.trans e3)) rz) s⟩
  · obtain ⟨e, us, hus, outs⟩ := p
    exact hd us H e hus outs
/-- a comprehension whose turns change the object at r alone; what they give needs no heap -/
theorem comp_row (wk : Walk J n G Y) {g : TG} {tt : TT} {te : TE} {vs : List Nat} {σ : L2.St} {H1 : Hp} {D r : Addr} {Qd : Hp → Prop} (hD : H1 D = none) (I : Hp → Prop) (R : Nat → V → Prop) (S : Nat → Prop) (hn : n < 100000) (hr : H1 r ≠ none)
    (h0 : I H1) (hI : ∀ H H', (∀ b o, b ≠ D → H b = some o → H' b = some o) → I H → I H') (hG : ∀ H, Eb r H1 H → I H → G H) (hY : ∀ i H x H', Y i H x H' → Ex H H')
    (hs : ∀ i x H H', i < n → Eb r H1 H → I H' → Y i H x H' → ∀ (Q1 : VK) (Q2 : Hp → Prop), (∀ y H4, Eb r H' H4 → I H4 → R i y → Q1 y H4) → (∀ H3, Eb r H' H3 → I H3 → S i → Q2 H3) →
      g x (wipe σ vs) H' fun σ2 H2 => wipe σ2 vs = wipe σ vs ∧ tt σ2 H2 fun b H3 => if b = true then te σ2 H3 Q1 else Q2 H3)
    (hd : ∀ us H', Eb r H1 H' → I H' → H' D = some (.lst us) → Outs R S n us → Qd H') :
    LcGoal J g tt te vs σ H1 D Qd := by
  have hrD : D ≠ r := fun z => hr (z ▸ hD)
  have upk : ∀ {H : Hp} {o : HO}, Eb r H1 H → Eb r H1 (upd H D o) := fun {H o} e b u nb hb => by
    rw [upd_ne (ne_of_none hb hD)]
    exact e b u nb hb
  have IU : ∀ {H : Hp} {o : HO}, I H → I (upd H D o) := fun {H o} i => hI _ _ (fun b u nb hb => by rw [upd_ne nb]; exact hb) i
  refine lc_it wk (fun i H => Eb r H1 H ∧ I H ∧ ∃ us, H D = some (.lst us) ∧ Outs R S i us) ⟨upk (Eb.refl r H1), IU h0, [], upd_same, .zero⟩ (fun i H _ p => hG H p.1 p.2.1) ?_ (fun H p => ?_)
  · rintro i x H H' hi ⟨e, ih, us, hus, outs⟩ hy
    have e1 := hY i H x H' hy
    refine hs i x H H' hi e (hI _ _ (fun b o _ h => e1 b o h) ih) hy _ _ (fun y H4 e4 i4 r => ?_) (fun H3 e3 i3 s => ?_)
    · have h4 : H4 D = some (.lst us) := e4 _ _ hrD (e1 _ _ hus)
      exact ⟨us, h4, Nat.lt_of_le_of_lt outs.len (Nat.lt_trans (Nat.lt_trans hi hn) (by decide)), upk ((e.trans (Eb.of e1)).trans e4), IU i4, us ++ [y], upd_same, .take outs r⟩
    · exact ⟨(e.trans (Eb.of e1)).trans e3, i3, us, e3 _ _ hrD (e1 _ _ hus), .skip outs s⟩
  · obtain ⟨e, ih, us, hus, outs⟩ := p
    exact hd us H e ih hus outs
end
theorem ypair_enum {xs : List V} {i : Nat} {H H' : Hp} {v : V} (h : YPair (fun i => some (V.int (i : Nat))) (fun i => xs[i]?) i H v H') : ∃ T x, v = .ref T ∧ H T = none ∧ H' = upd H T (.tup [V.int (i : Nat), x]) ∧ xs[i]? = some x := by
  obtain ⟨T, a, b, e1, e2, e3, e4, e5⟩ := h
  cases e4
  exact ⟨T, b, e1, e2, e3, e5⟩
theorem all2_of {α β : Type} {R : α → β → Prop} : ∀ {xs : List α} {ys : List β}, xs.length = ys.length → (∀ (i : Nat) (x : α) (y : β), xs[i]? = some x → ys[i]? = some y → R x y) → All2 R xs ys
  | [], [], _, _ => .nil
  | x :: xs, y :: ys, h, k => .cons (k 0 x y rfl rfl) (all2_of (by simpa using h) fun i x y h1 h2 => k (i + 1) x y (by simpa using h1) (by simpa using h2))
  | [], _ :: _, h, _ => by simp at h
  | _ :: _, [], h, _ => by simp at h
theorem yrange {i : Nat} {H H' : Hp} {v : V} (h : YFn (fun i => V.int ((0 : Int) + i)) i H v H') : H' = H ∧ v = .int (i : Int) := ⟨h.1, by have := h.2; rw [this]; show V.int (0 + (i : Int)) = _; rw [Int.zero_add]⟩
theorem yat_ex {xs : List V} : ∀ i H x H', YAt xs i H x H' → Ex H H' := fun i H x H' y => by rw [y.1]; exact Same.refl H
theorem yfn_ex {f : Nat → V} : ∀ i H x H', YFn f i H x H' → Ex H H' := fun i H x H' y => by rw [y.1]; exact Same.refl H
theorem ypair_ex {xs ys : Nat → Option V} : ∀ i H x H', YPair xs ys i H x H' → Ex H H' := fun i H x H' ⟨T, a, b, e1, e2, e3, _, _⟩ => by rw [e3]; exact Ex.new e2
end CK

/-! The text by places; what each def promises -/
namespace CK
open PySem PySem.Spec PyProof.Rows L2 CA
def top (i : Nat) : Stmt := PySem.Challenge.pw_clockadds_k19_whole_least_ways.main.body.getD i (.Pass ⟨0, 0, 0, 0⟩)
abbrev s_is_in : Stmt := top 8
abbrev N_is_in : List Str := ["value", "least", "most"]
theorem sc_is_in : FnScope N_is_in ["value", "least", "most"] (defScope s_is_in) := ⟨rfl, rfl, rfl, by decide +kernel, rfl, by decide +kernel, by decide +kernel⟩

abbrev s_gcd : Stmt := top 9
abbrev N_gcd : List Str := ["one", "other"]
theorem sc_gcd : FnScope N_gcd ["one", "other"] (defScope s_gcd) := ⟨rfl, rfl, rfl, by decide +kernel, rfl, by decide +kernel, by decide +kernel⟩

abbrev s_is_arrow : Stmt := top 14
abbrev N_is_arrow : List Str := ["value", "many", "one"]
theorem sc_is_arrow : FnScope N_is_arrow ["value", "many"] (defScope s_is_arrow) := ⟨rfl, rfl, rfl, by decide +kernel, rfl, by decide +kernel, by decide +kernel⟩

abbrev s_need_web : Stmt := top 15
abbrev N_need_web : List Str := ["web", "index", "one"]
theorem sc_need_web : FnScope N_need_web ["web"] (defScope s_need_web) := ⟨rfl, rfl, rfl, by decide +kernel, rfl, by decide +kernel, by decide +kernel⟩

abbrev s_need_hours : Stmt := top 16
abbrev N_need_hours : List Str := ["hours"]
theorem sc_need_hours : FnScope N_need_hours ["hours"] (defScope s_need_hours) := ⟨rfl, rfl, rfl, by decide +kernel, rfl, by decide +kernel, by decide +kernel⟩

abbrev s_need_dial : Stmt := top 17
abbrev N_need_dial : List Str := ["web", "hours", "dial", "index", "one"]
theorem sc_need_dial : FnScope N_need_dial ["web", "hours", "dial"] (defScope s_need_dial) := ⟨rfl, rfl, rfl, by decide +kernel, rfl, by decide +kernel, by decide +kernel⟩

abbrev s_need_all : Stmt := top 18
abbrev N_need_all : List Str := ["web", "hours", "dial"]
theorem sc_need_all : FnScope N_need_all ["web", "hours", "dial"] (defScope s_need_all) := ⟨rfl, rfl, rfl, by decide +kernel, rfl, by decide +kernel, by decide +kernel⟩

abbrev s_led_from : Stmt := top 19
abbrev N_led_from : List Str := ["web", "place", "found", "rows", "here", "one", "other"]
theorem sc_led_from : FnScope N_led_from ["web", "place"] (defScope s_led_from) := ⟨rfl, rfl, rfl, by decide +kernel, rfl, by decide +kernel, by decide +kernel⟩

abbrev s_parts_in : Stmt := top 20
abbrev N_parts_in : List Str := ["web", "leads_to", "found", "k", "part", "j"]
theorem sc_parts_in : FnScope N_parts_in ["web"] (defScope s_parts_in) := ⟨rfl, rfl, rfl, by decide +kernel, rfl, by decide +kernel, by decide +kernel⟩

abbrev s_above_in : Stmt := top 21
abbrev N_above_in : List Str := ["web", "place", "here", "k"]
theorem sc_above_in : FnScope N_above_in ["web", "place"] (defScope s_above_in) := ⟨rfl, rfl, rfl, by decide +kernel, rfl, by decide +kernel, by decide +kernel⟩

abbrev s_flow_in : Stmt := top 23
abbrev N_flow_in : List Str := ["web", "hours", "dial", "place", "found", "k"]
theorem sc_flow_in : FnScope N_flow_in ["web", "hours", "dial", "place"] (defScope s_flow_in) := ⟨rfl, rfl, rfl, by decide +kernel, rfl, by decide +kernel, by decide +kernel⟩

abbrev s_mark_of : Stmt := top 24
abbrev N_mark_of : List Str := ["web", "hours", "dial", "part", "flow", "found", "k"]
theorem sc_mark_of : FnScope N_mark_of ["web", "hours", "dial", "part"] (defScope s_mark_of) := ⟨rfl, rfl, rfl, by decide +kernel, rfl, by decide +kernel, by decide +kernel⟩

abbrev s_marks_in : Stmt := top 25
abbrev N_marks_in : List Str := ["web", "hours", "dial", "part"]
theorem sc_marks_in : FnScope N_marks_in ["web", "hours", "dial"] (defScope s_marks_in) := ⟨rfl, rfl, rfl, by decide +kernel, rfl, by decide +kernel, by decide +kernel⟩

abbrev s_prime_to : Stmt := top 26
abbrev N_prime_to : List Str := ["number", "many", "found", "k", "left", "prime", "size"]
theorem sc_prime_to : FnScope N_prime_to ["number", "many"] (defScope s_prime_to) := ⟨rfl, rfl, rfl, by decide +kernel, rfl, by decide +kernel, by decide +kernel⟩

abbrev s_ways_of : Stmt := top 27
abbrev N_ways_of : List Str := ["hours", "mark", "part", "dial", "flow", "rest", "told", "common", "one", "free", "found", "k"]
theorem sc_ways_of : FnScope N_ways_of ["hours", "mark", "part", "dial"] (defScope s_ways_of) := ⟨rfl, rfl, rfl, by decide +kernel, rfl, by decide +kernel, by decide +kernel⟩

abbrev s_count_with : Stmt := top 28
abbrev N_count_with : List Str := ["web", "hours", "dial", "told", "found", "part"]
theorem sc_count_with : FnScope N_count_with ["web", "hours", "dial", "told"] (defScope s_count_with) := ⟨rfl, rfl, rfl, by decide +kernel, rfl, by decide +kernel, by decide +kernel⟩

abbrev s_step : Stmt := top 30
abbrev N_step : List Str := ["hours", "dial", "arrow", "one", "other"]
theorem sc_step : FnScope N_step ["hours", "dial", "arrow"] (defScope s_step) := ⟨rfl, rfl, rfl, by decide +kernel, rfl, by decide +kernel, by decide +kernel⟩

abbrev s_near_in : Stmt := top 31
abbrev N_near_in : List Str := ["web", "hours", "dial", "some", "arrow", "there"]
theorem sc_near_in : FnScope N_near_in ["web", "hours", "dial"] (defScope s_near_in) := ⟨rfl, rfl, rfl, by decide +kernel, rfl, by decide +kernel, by decide +kernel⟩

abbrev s_need_wish : Stmt := top 33
abbrev N_need_wish : List Str := ["web", "hours", "dial", "wish", "one"]
theorem sc_need_wish : FnScope N_need_wish ["web", "hours", "dial", "wish"] (defScope s_need_wish) := ⟨rfl, rfl, rfl, by decide +kernel, rfl, by decide +kernel, by decide +kernel⟩

abbrev s_need_few : Stmt := top 36
abbrev N_need_few : List Str := ["web", "hours", "dial"]
theorem sc_need_few : FnScope N_need_few ["web", "hours", "dial"] (defScope s_need_few) := ⟨rfl, rfl, rfl, by decide +kernel, rfl, by decide +kernel, by decide +kernel⟩

abbrev s_steps_from : Stmt := top 37
abbrev N_steps_from : List Str := ["web", "hours", "dial", "found", "rows", "more", "here", "there"]
theorem sc_steps_from : FnScope N_steps_from ["web", "hours", "dial"] (defScope s_steps_from) := ⟨rfl, rfl, rfl, by decide +kernel, rfl, by decide +kernel, by decide +kernel⟩

abbrev s_need_two : Stmt := top 38
abbrev N_need_two : List Str := ["web", "hours", "one", "other"]
theorem sc_need_two : FnScope N_need_two ["web", "hours", "one", "other"] (defScope s_need_two) := ⟨rfl, rfl, rfl, by decide +kernel, rfl, by decide +kernel, by decide +kernel⟩

abbrev s_steps_to : Stmt := top 39
abbrev N_steps_to : List Str := ["web", "hours", "dial", "found", "rows", "more", "here", "one", "other", "there"]
theorem sc_steps_to : FnScope N_steps_to ["web", "hours", "dial"] (defScope s_steps_to) := ⟨rfl, rfl, rfl, by decide +kernel, rfl, by decide +kernel, by decide +kernel⟩

abbrev s_way_between : Stmt := top 40
abbrev N_way_between : List Str := ["web", "hours", "one", "other", "told", "found", "here", "arrow"]
theorem sc_way_between : FnScope N_way_between ["web", "hours", "one", "other"] (defScope s_way_between) := ⟨rfl, rfl, rfl, by decide +kernel, rfl, by decide +kernel, by decide +kernel⟩

abbrev s_fewest_met : Stmt := top 41
abbrev N_fewest_met : List Str := ["web", "hours", "dial", "wish", "told", "some", "there", "k", "one"]
theorem sc_fewest_met : FnScope N_fewest_met ["web", "hours", "dial", "wish"] (defScope s_fewest_met) := ⟨rfl, rfl, rfl, by decide +kernel, rfl, by decide +kernel, by decide +kernel⟩

abbrev s_law_taken : Stmt := top 43
abbrev N_law_taken : List Str := ["_law_row", "_law_many", "_law_found", "_law_cell"]
theorem sc_law_taken : FnScope N_law_taken ["_law_row", "_law_many"] (defScope s_law_taken) := ⟨rfl, rfl, rfl, by decide +kernel, rfl, by decide +kernel, by decide +kernel⟩

abbrev s_law_pick : Stmt := top 44
abbrev N_law_pick : List Str := ["_law_row", "_law_things"]
theorem sc_law_pick : FnScope N_law_pick ["_law_row", "_law_things"] (defScope s_law_pick) := ⟨rfl, rfl, rfl, by decide +kernel, rfl, by decide +kernel, by decide +kernel⟩

abbrev s_law_web : Stmt := top 45
abbrev N_law_web : List Str := ["_law_row", "_law_most", "_law_many", "_law_way", "_law_thin", "_law_arrows", "_law_k", "_law_j"]
theorem sc_law_web : FnScope N_law_web ["_law_row", "_law_most"] (defScope s_law_web) := ⟨rfl, rfl, rfl, by decide +kernel, rfl, by decide +kernel, by decide +kernel⟩

abbrev s_law_dial : Stmt := top 46
abbrev N_law_dial : List Str := ["_law_row", "_law_web_here", "_law_hours", "_law_part", "_law_one", "_law_k"]
theorem sc_law_dial : FnScope N_law_dial ["_law_row", "_law_web_here", "_law_hours"] (defScope s_law_dial) := ⟨rfl, rfl, rfl, by decide +kernel, rfl, by decide +kernel, by decide +kernel⟩

abbrev s_law_small : Stmt := top 47
abbrev N_law_small : List Str := ["_law_row", "_law_web_here", "_law_hours"]
theorem sc_law_small : FnScope N_law_small ["_law_row"] (defScope s_law_small) := ⟨rfl, rfl, rfl, by decide +kernel, rfl, by decide +kernel, by decide +kernel⟩

abbrev s_law_step : Stmt := top 48
abbrev N_law_step : List Str := ["_law_hours", "_law_dial_here", "_law_arrow"]
theorem sc_law_step : FnScope N_law_step ["_law_hours", "_law_dial_here", "_law_arrow"] (defScope s_law_step) := ⟨rfl, rfl, rfl, by decide +kernel, rfl, by decide +kernel, by decide +kernel⟩

abbrev s_law_from : Stmt := top 49
abbrev N_law_from : List Str := ["_law_web_here", "_law_hours", "_law_dial_here", "_law_found", "_law_rows", "_law_more", "_law_here", "_law_arrow", "_law_there"]
theorem sc_law_from : FnScope N_law_from ["_law_web_here", "_law_hours", "_law_dial_here"] (defScope s_law_from) := ⟨rfl, rfl, rfl, by decide +kernel, rfl, by decide +kernel, by decide +kernel⟩

abbrev s_law_alike : Stmt := top 50
abbrev N_law_alike : List Str := ["_law_found", "_law_due", "_law_k"]
theorem sc_law_alike : FnScope N_law_alike ["_law_found", "_law_due"] (defScope s_law_alike) := ⟨rfl, rfl, rfl, by decide +kernel, rfl, by decide +kernel, by decide +kernel⟩

abbrev s_law : Stmt := top 51
abbrev N_law : List Str := ["_law_script", "_law_row", "_law_web_here", "_law_hours", "_law_dial_here", "_law_known", "_law_words", "_law_rows", "_law_more", "_law_here", "_law_arrow", "_law_there", "_law_other", "_law_base", "_law_wish", "_law_fits", "_law_k", "_law_one"]
theorem sc_law : FnScope N_law ["_law_script"] (defScope s_law) := ⟨rfl, rfl, rfl, by decide +kernel, rfl, by decide +kernel, by decide +kernel⟩

def sco_law0 : Scope := { kind := .function, names := [(".0", .local), ("_law_there", .cell), ("range", .globalImplicit), ("_law_known", .cell), ("_law_web_here", .cell), ("_law_wish", .cell)], isGenerator := false, isCoroutine := false }

/-- arrows ascending -/
def Asc (as : List Arw) : Prop := as.Pairwise fun a b => alt a b = true
/-- a web of the law's size, with hours that it may have -/
structure GW (n k : Nat) (as : List Arw) : Prop where
  n1 : 1 ≤ n
  n4 : n ≤ 4
  w : VW n as
  asc : Asc as
  k2 : 2 ≤ k
  k24 : k ≤ 24
  few : k ^ n ≤ 4096

/-! ### promises -/
def spIsIn : Sp := fun vs H Q _ => ∃ (i lo hi : Int) (b : Bool), vs = [.int i, .int lo, .int hi] ∧ (b = true ↔ lo ≤ i ∧ i ≤ hi) ∧ Q (.bl b) H
def spGcd : Sp := fun vs H Q _ => ∃ a b : Nat, vs = [.int (a : Int), .int (b : Int)] ∧ Q (.int ((Nat.gcd a b : Nat) : Int)) H
def spIsArrow : Sp := fun vs H Q _ => ∃ (v : V) (a : Arw) (n : Nat), vs = [v, .int (n : Int)] ∧ IsA H v a ∧ a.1 < n ∧ a.2 < n ∧ a.1 ≠ a.2 ∧ ∀ H', Ex H H' → Q (.bl true) H'
def spNeedWeb : Sp := fun vs H Q _ => ∃ (v : V) (n k : Nat) (as : List Arw), vs = [v] ∧ IsWeb H v n as ∧ GW n k as ∧ ∀ H', Ex H H' → Q .non H'
def spNeedHours : Sp := fun vs H Q _ => ∃ k : Nat, vs = [.int (k : Int)] ∧ 2 ≤ k ∧ k ≤ 24 ∧ Q .non H
def spNeedDial : Sp := fun vs H Q _ => ∃ (v y : V) (n k : Nat) (as : List Arw) (d : List Nat), vs = [v, .int (k : Int), y] ∧ IsWeb H v n as ∧ IsI H y d ∧ VD n k d ∧ ∀ H', Ex H H' → Q .non H'
def spNeedAll : Sp := fun vs H Q _ => ∃ (v y : V) (n k : Nat) (as : List Arw) (d : List Nat), vs = [v, .int (k : Int), y] ∧ IsWeb H v n as ∧ GW n k as ∧ IsI H y d ∧ VD n k d ∧ ∀ H', Ex H H' → Q .non H'
def spLedFrom : Sp := fun vs H Q _ => ∃ (v : V) (n k p : Nat) (as : List Arw), vs = [v, .int (p : Int)] ∧ IsWeb H v n as ∧ GW n k as ∧ p < n ∧ ∀ l H', Ex H H' → H l = none → H' l = some (.lst (iv (led n as p))) → Q (.ref l) H'
def spPartsIn : Sp := fun vs H Q _ => ∃ (v : V) (n k : Nat) (as : List Arw), vs = [v] ∧ IsWeb H v n as ∧ GW n k as ∧ ∀ l us H', Ex H H' → H l = none → H' l = some (.lst us) → All2 (IsI H') us (parts n as) → Q (.ref l) H'
def spAboveIn : Sp := fun vs H Q _ => ∃ (v : V) (n k p : Nat) (as : List Arw), vs = [v, .int (p : Int)] ∧ IsWeb H v n as ∧ GW n k as ∧ p < n ∧ ∀ l H', Ex H H' → H l = none → H' l = some (.lst (iv (above n as p))) → Q (.ref l) H'
def spFlowIn : Sp := fun vs H Q _ => ∃ (v y : V) (n k p : Nat) (as : List Arw) (d : List Nat), vs = [v, .int (k : Int), y, .int (p : Int)] ∧ IsWeb H v n as ∧ GW n k as ∧ IsI H y d ∧ VD n k d ∧ p < n ∧ ∀ H', Ex H H' → Q (.int ((flow n as k d p : Nat) : Int)) H'
def spMarkOf : Sp := fun vs H Q _ => ∃ (v y z : V) (n k p : Nat) (as : List Arw) (d : List Nat), vs = [v, .int (k : Int), y, z] ∧ IsWeb H v n as ∧ GW n k as ∧ IsI H y d ∧ VD n k d ∧ p < n ∧ IsI H z (part n as p) ∧
  ∀ u H', Ex H H' → IsI H' u [(mark n as k d (part n as p)).1, (mark n as k d (part n as p)).2] → Q u H'
def mdat (m : Nat × Nat) : List Nat := [m.1, m.2]
def spMarksIn : Sp := fun vs H Q _ => ∃ (v y : V) (n k : Nat) (as : List Arw) (d : List Nat), vs = [v, .int (k : Int), y] ∧ IsWeb H v n as ∧ GW n k as ∧ IsI H y d ∧ VD n k d ∧
  ∀ l us H', Ex H H' → H l = none → H' l = some (.lst us) → All2 (IsI H') us ((marks n as k d).map mdat) → Q (.ref l) H'
def spPrimeTo : Sp := fun vs H Q _ => ∃ a m : Nat, vs = [.int (a : Int), .int (m : Int)] ∧ 1 ≤ a ∧ a ≤ 24 ∧ m ≤ 4 ∧ ∀ r : Nat, r ≤ a ^ m → Q (.int (r : Int)) H
def spWaysOf : Sp := fun vs H Q _ => ∃ (u z : V) (l : Addr) (k g r n : Nat) (P : List Nat), vs = [.int (k : Int), u, z, .ref l] ∧ IsI H u [g, r] ∧ IsI H z P ∧ H l = some (.lst (List.replicate n .non)) ∧
  1 ≤ k ∧ k ≤ 24 ∧ g ∣ k ∧ (P.length ≠ 1 → r ∣ g) ∧ 1 ≤ P.length ∧ P.length ≤ 4 ∧ (∀ x ∈ P, x < n) ∧ ∀ (c : Nat) H', Ex H H' → c ≤ k ^ P.length → Q (.int (c : Int)) H'
def spCountWith : Sp := fun vs H Q _ => ∃ (v y : V) (l : Addr) (n k : Nat) (as : List Arw) (d : List Nat), vs = [v, .int (k : Int), y, .ref l] ∧ IsWeb H v n as ∧ GW n k as ∧ IsI H y d ∧ VD n k d ∧ H l = some (.lst (List.replicate n .non)) ∧
  ∀ (c : Nat) H', Ex H H' → c ≤ 4096 → Q (.int (c : Int)) H'
def spStep : Sp := fun vs H Q _ => ∃ (y z : V) (n k : Nat) (as : List Arw) (d : List Nat) (a : Arw), vs = [.int (k : Int), y, z] ∧ GW n k as ∧ IsI H y d ∧ VD n k d ∧ IsA H z a ∧ a ∈ as ∧ ∀ u H', Ex H H' → IsI H' u (stp k d a) → Q u H'
def spNearIn : Sp := fun vs H Q _ => ∃ (v y : V) (n k : Nat) (as : List Arw) (d : List Nat), vs = [v, .int (k : Int), y] ∧ IsWeb H v n as ∧ GW n k as ∧ IsI H y d ∧ VD n k d ∧
  ∀ l us ds H', Ex H H' → H l = none → H' l = some (.lst us) → All2 (IsI H') us ds → (∀ e, e ∈ ds ↔ (∃ a ∈ as, e = stp k d a) ∧ e ≠ d) → Q (.ref l) H'
/-- a wish -/
def wv (ws : List (Option Nat)) : List V := ws.map fun o => match o with | none => V.non | some x => V.int (x : Int)
def Wish (n k : Nat) (ws : List (Option Nat)) : Prop := ws.length = n ∧ ∀ x, some x ∈ ws → x < k
/-- a dial shows all that is wished -/
def Fits (ws : List (Option Nat)) (d : List Nat) : Prop := ∀ i x, ws[i]? = some (some x) → d.getD i 0 = x
def spNeedWish : Sp := fun vs H Q _ => ∃ (v y z : V) (n k : Nat) (as : List Arw) (d : List Nat) (ws : List (Option Nat)), vs = [v, .int (k : Int), y, z] ∧ IsWeb H v n as ∧ GW n k as ∧ IsI H y d ∧ VD n k d ∧ IsT H z (wv ws) ∧ Wish n k ws ∧ ∀ H', Ex H H' → Q .non H'
def spNeedFew : Sp := fun vs H Q _ => ∃ (v y : V) (n k : Nat) (as : List Arw) (d : List Nat), vs = [v, .int (k : Int), y] ∧ IsWeb H v n as ∧ GW n k as ∧ IsI H y d ∧ VD n k d ∧ ∀ H', Ex H H' → Q .non H'
end CK

/-! is_in, gcd, is_arrow, need_web, need_hours, need_dial, need_all -/
namespace CK
open PySem PySem.Spec PyProof.Rows L2 CA
section
variable {P : Program} {w : World} {K : PySem.W.Frag} {mg : Str → Option Value} {base : Heap} {f : Addr} {fd : FuncData}
theorem ok_is_in (F : Fun K "is_in" "is_in" s_is_in f fd) (T : Bi mg) : FnOk P w K mg base CX0 1 f fd ["value", "least", "most"] spIsIn := by
  refine F.ok sc_is_in (fun vs H Q E h => ?_) (fun cdv A outer s H vs Q E hr h => ?_)
  · obtain ⟨_, _, _, _, rfl, _⟩ := h
    rfl
  · obtain ⟨i, lo, hi, b, rfl, hb, q⟩ := h
    refine ⟨_, (pss_one (ps_ret (pe_and (pe_callB call_is rfl T.isi bt_isi (pa_cons (pv 0) (pa_cons (pe_ty rfl T.int bt_int) pa_nil))) (pe_and (pe_not (pe_callB call_is rfl T.isi bt_isi (pa_cons (pv 0) (pa_cons (pe_ty rfl T.bool bt_bool) pa_nil)))) (pe_one (pe_chain op_le op_le (pv 1) (pv 0) (pv 2))))))), ?_⟩
    refine ⟨_, rfl, _, _, _, _, rfl, .int _, kb_ii, _, rfl, iteT ?_⟩
    refine ⟨_, rfl, _, _, _, _, rfl, .int _, kb_ib, _, rfl, _, rfl, iteT ?_⟩
    refine ⟨_, rfl, _, rfl, _, _, rfl, rfl, _, rfl, ?_⟩
    by_cases h1 : lo ≤ i
    · rw [decide_eq_true h1]
      refine iteT ⟨_, rfl, _, _, rfl, rfl, ?_⟩
      have e : decide (i ≤ hi) = b := by
        rw [Bool.eq_iff_iff, hb, decide_eq_true_iff]
        exact ⟨fun z => ⟨h1, z⟩, fun z => z.2⟩
      show Q (.bl (decide (i ≤ hi))) H
      rw [e]
      exact q
    · rw [decide_eq_false h1]
      have e : b = false := by
        rw [Bool.eq_false_iff]
        exact fun z => h1 (hb.mp z).1
      rw [e] at q
      exact iteF q
theorem ok_gcd (F : Fun K "gcd" "gcd" s_gcd f fd) (T : Bi mg) : FnOk P w K mg base CX0 1 f fd ["one", "other"] spGcd := by
  refine F.ok sc_gcd (fun vs H Q E h => ?_) (fun cdv A outer s H vs Q E hr h => ?_)
  · obtain ⟨_, _, rfl, _⟩ := h
    rfl
  · obtain ⟨a, b, rfl, q⟩ := h
    refine ⟨_, (pss_cons (ps_par (i := 0) (j := 1) (by rfl) sc_gcd.nd rfl rfl (by decide) rfl rfl (pa_cons (pe_callB call_abs rfl T.abs bt_abs (pa_cons (pv 0) pa_nil)) (pa_cons (pe_callB call_abs rfl T.abs bt_abs (pa_cons (pv 1) pa_nil)) pa_nil)) (by rfl))
  (pss_cons (ps_while PassesOwn.never (pt_cmpR op_ne (pv 1) pe_int (nomark _)) (pss_one (ps_par (i := 0) (j := 1) (by rfl) sc_gcd.nd rfl rfl (by decide) rfl rfl (pa_cons (pv 1) (pa_cons (pe_op op_mod (pv 0) (pv 1)) pa_nil)) (by rfl))))
  (pss_one (ps_ret (pv 0))))), ?_⟩
    have ab : ∀ x : Nat, (if (x : Int) < 0 then -(x : Int) else (x : Int)) = (x : Int) := fun x => if_neg (by omega)
    refine ⟨_, rfl, _, rfl, _, rfl, _, rfl, _, _, rfl, ?_⟩
    rw [ab, ab]
    refine ⟨fun m σ H' => ∃ x y : Nat, σ = [some (V.int (x : Int)), some (V.int (y : Int))] ∧ H' = H ∧ Nat.gcd x y = Nat.gcd a b ∧ m = y, ⟨b, a, b, rfl, rfl, rfl, rfl⟩, ?_⟩
    rintro m σ H' ⟨x, y, rfl, rfl, hg, rfl⟩
    refine ⟨_, rfl, rfl, _, rfl, ?_⟩
    refine ite2 (fun c => ?_) (fun c => ?_)
    · have hy : m ≠ 0 := by
        intro z
        subst z
        simp at c
      refine ⟨fun σ' H2 => ∃ m', m' < m ∧ ∃ x y : Nat, σ' = [some (V.int (x : Int)), some (V.int (y : Int))] ∧ H2 = H' ∧ Nat.gcd x y = Nat.gcd a b ∧ m' = y, fun _ _ z => z, ?_⟩
      refine ⟨_, rfl, _, rfl, _, rfl, _, _, rfl, rfl, (by omega), _, _, rfl, ?_⟩
      refine ⟨x % m, Nat.mod_lt _ (by omega), m, x % m, ?_, rfl, ?_, rfl⟩
      · show [some (V.int (m : Int)), some (V.int ((x : Int) % (m : Int)))] = _
        rw [Int.natCast_emod]
      · rw [← hg, Nat.gcd_comm x m, Nat.gcd_rec m x, Nat.gcd_comm]
    · have hy : m = 0 := by
        rcases Nat.eq_zero_or_pos m with z | z
        · exact z
        · exact absurd (by simp; omega) c
      subst hy
      rw [Nat.gcd_zero_right] at hg
      subst hg
      exact ⟨_, rfl, q⟩
/-- the first things that a def asks of a tuple: it is one, of so many items -/
theorem ok_is_arrow (F : Fun K "is_arrow" "is_arrow" s_is_arrow f fd) (T : Bi mg) (C_is_in : Cal P w K mg base 1 "is_in" ["value", "least", "most"] spIsIn) : FnOk P w K mg base CX0 2 f fd ["value", "many"] spIsArrow := by
  refine F.ok sc_is_arrow (fun vs H Q E h => ?_) (fun cdv A outer s H vs Q E hr h => ?_)
  · obtain ⟨_, _, _, rfl, _⟩ := h
    rfl
  · obtain ⟨v, a, n, rfl, ha, h1, h2, h3, q⟩ := h
    refine ⟨_, (pss_cons (ps_if (PW.pt (pw_or (pt_not (pt_val (pe_callB call_is rfl T.isi bt_isi (pa_cons (pv 0) (pa_cons (pe_ty rfl T.tuple bt_tuple) pa_nil))))) (pw_or1 (pt_cmpR op_ne (pe_callB call_lenT rfl T.len bt_len (pa_cons (pv 0) pa_nil)) pe_int (nomark _))))) (pss_one (ps_ret pe_bl)) pss_nil)
  (pss_one (ps_ret (pe_and (pe_cmpR (op_eqE hr.units) (pe_lc (own := [("one", 2)]) (g := gName 2) rfl sc_is_arrow.nd (pi_tup (pv 0)) (blkOk_by (own := [("one", 2)]) (N := N_is_arrow) (sc := defScope s_is_arrow) (by decide +kernel)) (fun _ _ _ _ _ => (pg_name (i := 2) sc_is_arrow.nd rfl (Or.inl rfl))) (fun _ _ _ _ _ => (pts_one (pt_not (pt_val (pe_cal C_is_in hr (by first | decide | exact Nat.le_refl _) rfl (pa_cons (pv 2) (pa_cons pe_int (pa_cons (pe_op op_sub (pv 1) pe_int) pa_nil)))))))) (fun _ _ _ _ _ => (pv 2))) (pe_lst pa_nil) (nomark _)) (pe_one (pe_cmpR op_ne (pe_ix ix_t (pv 0) pe_int (fun _ _ => rfl)) (pe_ix ix_t (pv 0) pe_int (fun _ _ => rfl)) (nomark _))))))), ?_⟩
    refine ⟨_, rfl, _, _, _, _, rfl, .tup ha, kb_tt, _, rfl, ?_⟩
    refine iteF ?_
    refine ⟨_, rfl, _, _, rfl, ha, rfl, _, rfl, ?_⟩
    refine iteF ?_
    obtain ⟨p, rfl, hp⟩ := id ha
    refine ⟨_, rfl, p, rfl, ⟨_, SqT.of hp⟩, fun D hD => ?_⟩
    refine comp_it (walk_tup (K := K) (a := p) (xs := [.int (a.1 : Int), .int (a.2 : Int)])) hD (fun _ _ _ => False) (fun _ => True) (by show 2 < 100000; decide) (fun H' e => (IsT.mk (e _ _ hp)).sq) yat_ex (fun _ _ _ _ _ _ _ h => h) ?_ ?_
    · rintro i x H0 H' hi e _ ⟨rfl, hx⟩ Q1 Q2 _ k2
      have hx' : ∃ m : Nat, x = .int (m : Int) ∧ m < n := by
        match i, hx with
        | 0, hx => cases hx; exact ⟨_, rfl, h1⟩
        | 1, hx => cases hx; exact ⟨_, rfl, h2⟩
      obtain ⟨m, rfl, hm⟩ := hx'
      refine ⟨rfl, ?_⟩
      refine ⟨_, rfl, _, rfl, _, _, rfl, rfl, _, _, _, true, rfl, ⟨fun _ => by omega, fun _ => rfl⟩, true, rfl, ?_⟩
      exact iteF (k2 _ (Same.refl _) trivial)
    · intro us H' e hus outs
      have hn := outs.none (fun _ _ h => h)
      subst hn
      refine ⟨Nat.zero_le _, fun r hr' => ?_⟩
      refine ⟨D, r, [], rfl, rfl, (Ex.new hr') _ _ hus, upd_same, sim_nil, true, rfl, iteT ?_⟩
      refine ⟨_, rfl, _, _, _, (ha.ex e).ex (Ex.new hr'), rfl, atI_nat (j := 0) rfl, _, rfl, _, _, _, (ha.ex e).ex (Ex.new hr'), rfl, atI_nat (j := 1) rfl, rfl, ?_⟩
      have e3 : decide (V.int (a.1 : Int) = V.int (a.2 : Int)) = false := decide_eq_false fun z => h3 (by have := V.int.inj z; omega)
      rw [e3]
      exact q _ (e.trans (Ex.new hr'))
theorem ok_need_hours (F : Fun K "need_hours" "need_hours" s_need_hours f fd) (T : Bi mg) (C_is_in : Cal P w K mg base 1 "is_in" ["value", "least", "most"] spIsIn) : FnOk P w K mg base CX0 2 f fd ["hours"] spNeedHours := by
  refine F.ok sc_need_hours (fun vs H Q E h => ?_) (fun cdv A outer s H vs Q E hr h => ?_)
  · obtain ⟨_, rfl, _⟩ := h
    rfl
  · obtain ⟨k, rfl, h2, h24, q⟩ := h
    refine ⟨_, (pss_one (ps_if (pt_not (pt_val (pe_cal C_is_in hr (by first | decide | exact Nat.le_refl _) rfl (pa_cons (pv 0) (pa_cons (pe_num rfl T.least) (pa_cons (pe_num rfl T.most) pa_nil)))))) (pss_one ps_never) pss_nil)), ?_⟩
    exact ⟨_, rfl, _, _, _, true, rfl, ⟨fun _ => by omega, fun _ => rfl⟩, true, rfl, iteF q⟩
theorem IsWeb.t {H : Hp} {v : V} {n : Nat} {as : List Arw} (h : IsWeb H v n as) : ∃ y, IsT H v [.int (n : Int), y] ∧ IsW H y as := h
theorem ok_need_dial (F : Fun K "need_dial" "need_dial" s_need_dial f fd) (T : Bi mg) (C_is_in : Cal P w K mg base 1 "is_in" ["value", "least", "most"] spIsIn) : FnOk P w K mg base CX0 2 f fd ["web", "hours", "dial"] spNeedDial := by
  refine F.ok sc_need_dial (fun vs H Q E h => ?_) (fun cdv A outer s H vs Q E hr h => ?_)
  · obtain ⟨_, _, _, _, _, _, rfl, _⟩ := h
    rfl
  · obtain ⟨v, y, n, k, as, d, rfl, hw, hd, vd, q⟩ := h
    obtain ⟨z, hv, hz⟩ := hw
    obtain ⟨p, rfl, hp⟩ := id hd
    refine ⟨_, (pss_cons (ps_if (PW.pt (pw_or (pt_not (pt_val (pe_callB call_is rfl T.isi bt_isi (pa_cons (pv 2) (pa_cons (pe_ty rfl T.tuple bt_tuple) pa_nil))))) (pw_or1 (pt_cmpR op_ne (pe_callB call_lenT rfl T.len bt_len (pa_cons (pv 2) pa_nil)) (pe_ix ix_t (pv 0) pe_int (fun _ _ => rfl)) (nomark _))))) (pss_one ps_never) pss_nil)
  (pss_one (ps_for PassesOwn.never rfl (pi_enumT rfl T.enum (pa_cons (pv 2) pa_nil)) (pg_tup rfl (pgs_cons (pg_name (i := 3) sc_need_dial.nd rfl (Or.inl rfl)) (pgs_cons (pg_name (i := 4) sc_need_dial.nd rfl (Or.inl rfl)) pgs_nil))) (pss_one (ps_if (pt_not (pt_val (pe_cal C_is_in hr (by first | decide | exact Nat.le_refl _) rfl (pa_cons (pv 4) (pa_cons pe_int (pa_cons (pe_op op_sub (pv 1) pe_int) pa_nil)))))) (pss_one ps_never) pss_nil))))), ?_⟩
    refine ⟨_, rfl, _, _, _, _, rfl, .tup hd, kb_tt, _, rfl, ?_⟩
    refine iteF ?_
    refine ⟨_, rfl, _, _, rfl, hd, _, rfl, _, _, _, hv, rfl, atI_nat (j := 0) rfl, rfl, _, rfl, ?_⟩
    have e1 : (!decide (V.int ((iv d).length : Int) = V.int (n : Int))) = false := by rw [iv_len, vd.len]; simp
    rw [e1]
    refine iteF ?_
    refine ⟨_, rfl, p, _, rfl, SqT.of hp, ?_⟩
    refine for_it (walk_enumT (K := K) (a := p) (xs := iv d)) (fun i σ H' => Ex H H' ∧ ∃ a b, σ = [some v, some (.int (k : Int)), some (.ref p), a, b]) ⟨Same.refl H, none, none, rfl⟩ (fun i σ H' _ h => SqT.of (h.1 _ _ hp)) ?_ (fun σ H' h => q H' h.1)
    rintro i x σ H0 H' hi ⟨e, a, b, rfl⟩ hy
    obtain ⟨t, x2, rfl, ht, rfl, e3⟩ := ypair_enum hy
    have hi' : i < d.length := by rw [iv_len] at hi; exact hi
    rw [iv_get hi'] at e3
    cases e3
    have hlt := vd.get (i := i) (by rw [← vd.len]; exact hi')
    refine ⟨t, _, rfl, SqT.of upd_same, rfl, _, _, rfl, _, _, rfl, rfl, ?_⟩
    refine ⟨_, rfl, _, rfl, _, _, rfl, rfl, _, _, _, true, rfl, ⟨fun _ => by omega, fun _ => rfl⟩, true, rfl, iteF ⟨e.trans (Ex.new ht), _, _, rfl⟩⟩
theorem le_pair (a b c d : Int) (h : c < a ∨ (c = a ∧ d < b)) : Ob.lexAt (fun j => decide (([a, b] : List Int).getD j 0 = ([c, d] : List Int).getD j 0)) (fun j => decide (([a, b] : List Int).getD j 0 ≤ ([c, d] : List Int).getD j 0)) (decide (([a, b] : List Int).length ≤ ([c, d] : List Int).length)) 0 (min ([a, b] : List Int).length ([c, d] : List Int).length) = false := by
  show Ob.lexAt _ _ _ 0 2 = false
  rw [Ob.lexAt_succ, Ob.lexAt_succ, Ob.lexAt_zero]
  show (if decide (a = c) = true then (if decide (b = d) = true then _ else decide (b ≤ d)) else decide (a ≤ c)) = false
  rcases h with h | ⟨rfl, h⟩
  · rw [if_neg (by simp; omega)]
    exact decide_eq_false (by omega)
  · rw [if_pos (by simp), if_neg (by simp; omega)]
    exact decide_eq_false (by omega)
theorem ok_need_web (F : Fun K "need_web" "need_web" s_need_web f fd) (T : Bi mg) (C_is_in : Cal P w K mg base 1 "is_in" ["value", "least", "most"] spIsIn) (C_is_arrow : Cal P w K mg base 2 "is_arrow" ["value", "many"] spIsArrow) : FnOk P w K mg base CX0 3 f fd ["web"] spNeedWeb := by
  refine F.ok sc_need_web (fun vs H Q E h => ?_) (fun cdv A outer s H vs Q E hr h => ?_)
  · obtain ⟨_, _, _, _, rfl, _⟩ := h
    rfl
  · obtain ⟨v, n, k, as, rfl, hw, gw, q⟩ := h
    obtain ⟨z, hv, hz⟩ := id hw
    obtain ⟨us, hu, hall⟩ := id hz
    obtain ⟨p, rfl, hp⟩ := id hu
    refine ⟨_, (pss_cons (ps_if (PW.pt (pw_or (pt_not (pt_val (pe_callB call_is rfl T.isi bt_isi (pa_cons (pv 0) (pa_cons (pe_ty rfl T.tuple bt_tuple) pa_nil))))) (pw_or (pt_cmpR op_ne (pe_callB call_lenT rfl T.len bt_len (pa_cons (pv 0) pa_nil)) pe_int (nomark _)) (pw_or1 (pt_not (pt_val (pe_callB call_is rfl T.isi bt_isi (pa_cons (pe_ix ix_t (pv 0) pe_int (fun _ _ => rfl)) (pa_cons (pe_ty rfl T.tuple bt_tuple) pa_nil))))))))) (pss_one ps_never) pss_nil)
  (pss_cons (ps_if (pt_not (pt_val (pe_cal C_is_in hr (by first | decide | exact Nat.le_refl _) rfl (pa_cons (pe_ix ix_t (pv 0) pe_int (fun _ _ => rfl)) (pa_cons pe_int (pa_cons (pe_num rfl T.clocks) pa_nil)))))) (pss_one ps_never) pss_nil)
  (pss_one (ps_for PassesOwn.never rfl (pi_enumT rfl T.enum (pa_cons (pe_ix ix_t (pv 0) pe_int (fun _ _ => rfl)) pa_nil)) (pg_tup rfl (pgs_cons (pg_name (i := 1) sc_need_web.nd rfl (Or.inl rfl)) (pgs_cons (pg_name (i := 2) sc_need_web.nd rfl (Or.inl rfl)) pgs_nil))) (pss_one (ps_if (PW.pt (pw_or (pt_not (pt_val (pe_cal C_is_arrow hr (by first | decide | exact Nat.le_refl _) rfl (pa_cons (pv 2) (pa_cons (pe_ix ix_t (pv 0) pe_int (fun _ _ => rfl)) pa_nil))))) (pw_or1 (PW.pt (pw_and (pt_cmpR op_gt (pv 1) pe_int (nomark _)) (pw_and1 (pt_cmpR (op_leT hr.units0) (pv 2) (pe_ix ix_t (pe_ix ix_t (pv 0) pe_int (fun _ _ => rfl)) (pe_op op_sub (pv 1) pe_int) (fun _ _ => rfl)) (nomark _)))))))) (pss_one ps_never) pss_nil)))))), ?_⟩
    have n1 := gw.n1
    have n4 := gw.n4
    refine ⟨_, rfl, _, _, _, _, rfl, .tup hv, kb_tt, _, rfl, ?_⟩
    refine iteF ?_
    refine ⟨_, rfl, _, _, rfl, hv, rfl, _, rfl, ?_⟩
    refine iteF ?_
    refine ⟨_, rfl, _, _, _, hv, rfl, atI_nat (j := 1) rfl, _, _, _, _, rfl, .tup hu, kb_tt, _, rfl, ?_⟩
    refine iteF ?_
    refine ⟨_, rfl, _, _, _, hv, rfl, atI_nat (j := 0) rfl, _, _, _, true, rfl, ⟨fun _ => by omega, fun _ => rfl⟩, true, rfl, iteF ?_⟩
    refine ⟨_, rfl, _, _, _, hv, rfl, atI_nat (j := 1) rfl, p, _, rfl, SqT.of hp, ?_⟩
    refine for_it (walk_enumT (K := K) (a := p) (xs := us)) (fun i σ H' => Ex H H' ∧ ∃ a b, σ = [some v, a, b]) ⟨Same.refl H, none, none, rfl⟩ (fun i σ H' _ h => SqT.of (h.1 _ _ hp)) ?_ (fun σ H' h => q H' h.1)
    rintro i x σ H0 H' hi ⟨e, a, b, rfl⟩ hy
    obtain ⟨t, x2, rfl, ht, rfl, e3⟩ := ypair_enum hy
    obtain ⟨ar, har, hx2⟩ := all2_get hall e3
    have mem : ar ∈ as := List.mem_of_getElem? har
    have ex1 : Ex H (upd H0 t (.tup [V.int (i : Nat), x2])) := e.trans (Ex.new ht)
    refine ⟨t, _, rfl, SqT.of upd_same, rfl, _, _, rfl, _, _, rfl, rfl, ?_⟩
    refine ⟨_, rfl, _, rfl, _, _, _, hv.ex ex1, rfl, atI_nat (j := 0) rfl, x2, ar, n, rfl, IsT.ex hx2 ex1, gw.w.lt1 _ mem, gw.w.lt2 _ mem, gw.w.ne _ mem, fun H2 e2 => ⟨true, rfl, ?_⟩⟩
    refine iteF ?_
    refine ⟨_, rfl, _, _, rfl, rfl, _, rfl, ?_⟩
    have ex2 := ex1.trans e2
    have fin : Ex H H2 ∧ ∃ a b, [some v, some (V.int ((i : Nat) : Int)), some x2] = [some v, a, b] := ⟨ex2, _, _, rfl⟩
    refine ite2 (fun c => ?_) (fun c => iteF fin)
    have hi0 : 0 < i := by have := of_decide_eq_true c; omega
    -- the arrow before
    obtain ⟨pr, hpr⟩ : ∃ pr, as[i - 1]? = some pr := ⟨_, List.getElem?_eq_getElem (show i - 1 < as.length by have := (List.getElem?_eq_some_iff.mp har).1; omega)⟩
    obtain ⟨x1, hx1, hpx⟩ := all2_getR hall hpr
    have lt : alt pr ar = true := by
      obtain ⟨j1, e1⟩ := List.getElem?_eq_some_iff.mp hpr
      obtain ⟨j2, e2⟩ := List.getElem?_eq_some_iff.mp har
      have := List.pairwise_iff_getElem.mp gw.asc (i - 1) i j1 j2 (by omega)
      rw [e1, e2] at this
      exact this
    obtain ⟨q1, rfl, hq1⟩ := IsT.ex hx2 ex2
    obtain ⟨q2, rfl, hq2⟩ := IsT.ex hpx ex2
    refine ⟨_, rfl, _, rfl, _, _, _, hv.ex ex2, rfl, atI_nat (j := 1) rfl, _, rfl, _, _, rfl, rfl, _, _, _, hu.ex ex2, rfl, at_of (by omega) hx1, ?_⟩
    refine ⟨q1, q2, [(ar.1 : Int), (ar.2 : Int)], [(pr.1 : Int), (pr.2 : Int)], rfl, rfl, SqT.of hq1, SqT.of hq2, ?_⟩
    have lt' := of_decide_eq_true lt
    rw [le_pair _ _ _ _ (by omega)]
    exact ⟨false, rfl, iteF fin⟩
theorem ok_need_all (F : Fun K "need_all" "need_all" s_need_all f fd) (T : Bi mg) (C_need_web : Cal P w K mg base 3 "need_web" ["web"] spNeedWeb) (C_need_hours : Cal P w K mg base 2 "need_hours" ["hours"] spNeedHours) (C_need_dial : Cal P w K mg base 2 "need_dial" ["web", "hours", "dial"] spNeedDial) : FnOk P w K mg base CX0 4 f fd ["web", "hours", "dial"] spNeedAll := by
  refine F.ok sc_need_all (fun vs H Q E h => ?_) (fun cdv A outer s H vs Q E hr h => ?_)
  · obtain ⟨_, _, _, _, _, _, rfl, _⟩ := h
    rfl
  · obtain ⟨v, y, n, k, as, d, rfl, hw, gw, hd, vd, q⟩ := h
    refine ⟨_, (pss_cons (ps_expr (pe_cal C_need_web hr (by first | decide | exact Nat.le_refl _) rfl (pa_cons (pv 0) pa_nil)))
  (pss_cons (ps_expr (pe_cal C_need_hours hr (by first | decide | exact Nat.le_refl _) rfl (pa_cons (pv 1) pa_nil)))
  (pss_one (ps_expr (pe_cal C_need_dial hr (by first | decide | exact Nat.le_refl _) rfl (pa_cons (pv 0) (pa_cons (pv 1) (pa_cons (pv 2) pa_nil)))))))), ?_⟩
    refine ⟨_, rfl, v, n, k, as, rfl, hw, gw, fun H1 e1 => ?_⟩
    refine ⟨_, rfl, k, rfl, gw.k2, gw.k24, ?_⟩
    exact ⟨_, rfl, _, rfl, _, rfl, v, y, n, k, as, d, rfl, hw.ex e1, hd.ex e1, vd, fun H2 e2 => q H2 (e1.trans e2)⟩
end
end CK

/-! led_from, parts_in, above_in -/
namespace CK
open PySem PySem.Spec PyProof.Rows L2 CA
theorem iv_snoc (d : List Nat) (x : Nat) : iv (d ++ [x]) = iv d ++ [V.int (x : Int)] := by unfold iv; rw [List.map_append]; rfl
theorem mem_snoc_last {d : List Nat} (h : d ≠ []) : ∃ e x, d = e ++ [x] := ⟨d.dropLast, d.getLast h, (List.dropLast_concat_getLast h).symm⟩
section
variable {P : Program} {w : World} {K : PySem.W.Frag} {mg : Str → Option Value} {base : Heap} {f : Addr} {fd : FuncData}
theorem ok_led_from (F : Fun K "led_from" "led_from" s_led_from f fd) (T : Bi mg) : FnOk P w K mg base CX0 1 f fd ["web", "place"] spLedFrom := by
  refine F.ok sc_led_from (fun vs H Q E h => ?_) (fun cdv A outer s H vs Q E hr h => ?_)
  · obtain ⟨_, _, _, _, _, rfl, _⟩ := h
    rfl
  · obtain ⟨v, n, k, p, as, rfl, hw, gw, hp, q⟩ := h
    obtain ⟨z, hv, hz⟩ := id hw
    obtain ⟨us, hu, hall⟩ := id hz
    obtain ⟨ta, rfl, hta⟩ := id hu
    refine ⟨_, (pss_cons (ps_par (i := 2) (j := 3) (by rfl) sc_led_from.nd rfl rfl (by decide) rfl rfl (pa_cons (pe_lst (pa_cons (pv 1) pa_nil)) (pa_cons (pe_lst (pa_cons (pv 1) pa_nil)) pa_nil)) (by rfl))
  (pss_cons (ps_while PassesOwn.never (pt_cmpR (op_neE hr.units) (pv 3) (pe_lst pa_nil) (nomark _)) (pss_cons (ps_set (i := 4) sc_led_from.nd rfl (Or.inl rfl) (pe_bm0 PySem.F.plainAttrs_list PySem.F.slot_list_pop PySem.F.type_list_pop mt_pop (pv 3)))
  (pss_one (ps_for PassesOwn.never rfl (pi_tup (pe_ix ix_t (pv 0) pe_int (fun _ _ => rfl))) (pg_tup rfl (pgs_cons (pg_name (i := 5) sc_led_from.nd rfl (Or.inl rfl)) (pgs_cons (pg_name (i := 6) sc_led_from.nd rfl (Or.inl rfl)) pgs_nil))) (pss_one (ps_if (PW.pt (pw_and (pt_cmpR op_eq (pv 5) (pv 4) (nomark _)) (pw_and1 (pt_cmpR op_notInI (pv 6) (pv 2) rfl)))) (pss_cons (ps_expr (pe_bm PySem.F.plainAttrs_list PySem.F.slot_list_append PySem.F.type_list_append mt_append (pv 2) (pa_cons (pv 6) pa_nil)))
  (pss_one (ps_expr (pe_bm PySem.F.plainAttrs_list PySem.F.slot_list_append PySem.F.type_list_append mt_append (pv 3) (pa_cons (pv 6) pa_nil))))) pss_nil))))))
  (pss_one (ps_ret (pe_callB cr_sorted rfl T.sorted bt_sorted (pa_cons (pv 2) pa_nil)))))), ?_⟩
    have n4 := gw.n4
    refine ⟨_, rfl, by show 1 ≤ sizeLine; decide, fun lf hlf => ?_⟩
    refine ⟨_, rfl, by show 1 ≤ sizeLine; decide, fun lr hlr => ⟨_, _, rfl, ?_⟩⟩
    have nfr : lf ≠ lr := fun z => by rw [z, upd_same] at hlr; cases hlr
    have hlr0 : H lr = none := by rw [upd_ne nfr.symm] at hlr; exact hlr
    -- the word between the turns
    refine ⟨fun m σ H' => ∃ (Fo Rw : List Nat) (a b c : Option V), σ = [some v, some (.int (p : Int)), some (.ref lf), some (.ref lr), a, b, c] ∧ Ex H H' ∧ H' lf = some (.lst (iv Fo)) ∧ H' lr = some (.lst (iv Rw)) ∧ DInv n as p Fo Rw none 0 ∧ m = (n - Fo.length) + Rw.length,
      ⟨_, [p], [p], none, none, none, rfl, (Ex.new hlf).mut hlr0, by rw [upd_ne nfr]; exact upd_same, upd_same, DInv.start hp, rfl⟩, ?_⟩
    rintro m σ H0 ⟨Fo, Rw, a, b, c, rfl, e0, h1, h2, I, rfl⟩
    refine ⟨_, rfl, Nat.zero_le _, fun l0 hl0 => ?_⟩
    have e1 : Ex H0 (upd H0 l0 (.lst [])) := Ex.new hl0
    refine ⟨lr, l0, _, rfl, rfl, e1 _ _ h2, upd_same, sim_iv _, _, rfl, ?_⟩
    by_cases hR : Rw = []
    · subst hR
      refine iteF ?_
      refine ⟨_, rfl, lf, ii Fo, rfl, ?_, ?_, fun ns pn hperm hsort hpn => ?_⟩
      · rw [iv_ii]
        exact SqL.of (e1 _ _ h1)
      · have := I.len
        show (Fo.map fun x : Nat => (x : Int)).length < 64
        rw [List.length_map]
        omega
      · have en := I.sorted hperm hsort
        rw [en]
        have e2 : ((led n as p).map fun x : Nat => (x : Int)).map V.int = iv (led n as p) := iv_ii _
        rw [e2]
        exact q pn _ ((e0.trans e1).trans (Ex.new hpn)) (e0.free (e1.free hpn)) upd_same
    · obtain ⟨Rw', here, rfl⟩ := mem_snoc_last hR
      have ne : (!(iv (Rw' ++ [here])).isEmpty) = true := by rw [iv_snoc]; simp
      rw [ne]
      refine iteT ⟨_, fun σ' H' z => z, ?_⟩
      have h2' : (upd H0 l0 (.lst [])) lr = some (.lst (iv (Rw' ++ [here]))) := e1 _ _ h2
      refine ⟨_, rfl, .inl ⟨rfl, _, SqL.of h2'⟩, lr, _, .int (here : Int), rfl, rfl, h2', ?_, ?_⟩
      · rw [iv_snoc]
        simp
      have edrop : (iv (Rw' ++ [here])).dropLast = iv Rw' := by rw [iv_snoc, List.dropLast_concat]
      rw [edrop]
      obtain ⟨H2, eH2⟩ : ∃ H2, H2 = upd (upd H0 l0 (.lst [])) lr (.lst (iv Rw')) := ⟨_, rfl⟩
      rw [← eH2]
      have g0 : Ex H H2 := by rw [eH2]; exact Ex.mut (e0.trans e1) hlr0
      have g1 : H2 lf = some (.lst (iv Fo)) := by rw [eH2, upd_ne nfr]; exact e1 _ _ h1
      have g2 : H2 lr = some (.lst (iv Rw')) := by rw [eH2]; exact upd_same
      refine ⟨_, rfl, _, _, _, hv.ex g0, rfl, atI_nat (j := 1) rfl, ta, rfl, ⟨_, SqT.of (g0 _ _ hta)⟩, ?_⟩
      refine for_it (walk_tup (K := K) (a := ta) (xs := us)) (fun i σ H' => ∃ (Fo' Rw2 : List Nat) (b c : Option V), σ = [some v, some (.int (p : Int)), some (.ref lf), some (.ref lr), some (.int (here : Int)), b, c] ∧ Ex H H' ∧ H' lf = some (.lst (iv Fo')) ∧ H' lr = some (.lst (iv Rw2)) ∧ DInv n as p Fo' Rw2 (some here) i ∧ (n - Fo'.length) + Rw2.length + 1 ≤ (n - Fo.length) + (Rw' ++ [here]).length)
        ⟨Fo, Rw', b, c, rfl, g0, g1, g2, I.pop, by rw [List.length_append, List.length_singleton]; omega⟩ (fun i σ H' _ ⟨_, _, _, _, _, e, _⟩ => SqT.of (e _ _ hta)) ?_ ?_
      · rintro i x σ _ H3 hi ⟨Fo', Rw2, b, c, rfl, i0, i1, i2, J, mm⟩ ⟨rfl, hx⟩
        obtain ⟨ar, har, hxa⟩ := all2_get hall hx
        obtain ⟨tx, rfl, htx⟩ := IsT.ex hxa i0
        refine ⟨tx, _, rfl, SqT.of htx, rfl, _, _, rfl, _, _, rfl, rfl, ?_⟩
        refine ⟨_, rfl, _, rfl, rfl, _, rfl, ?_⟩
        have keep : ∀ k : ¬ (ar.1 = here ∧ ar.2 ∉ Fo'), ∃ (F2 R2 : List Nat) (b' c' : Option V), [some v, some (V.int (p : Int)), some (V.ref lf), some (V.ref lr), some (V.int (here : Int)), some (V.int (ar.1 : Int)), some (V.int (ar.2 : Int))] = [some v, some (V.int (p : Int)), some (V.ref lf), some (V.ref lr), some (V.int (here : Int)), b', c'] ∧ Ex H H3 ∧ H3 lf = some (.lst (iv F2)) ∧ H3 lr = some (.lst (iv R2)) ∧ DInv n as p F2 R2 (some here) (i + 1) ∧ (n - F2.length) + R2.length + 1 ≤ (n - Fo.length) + (Rw' ++ [here]).length :=
          fun k => ⟨Fo', Rw2, _, _, rfl, i0, i1, i2, J.skip har k, mm⟩
        by_cases c1 : ar.1 = here
        · rw [decide_eq_true (show V.int (ar.1 : Int) = V.int (here : Int) by rw [c1])]
          refine iteT ⟨_, rfl, _, rfl, ar.2, lf, Fo', rfl, rfl, i1, _, rfl, ?_⟩
          by_cases c2 : ar.2 ∈ Fo'
          · rw [decide_eq_true c2]
            exact iteF (keep fun z => z.2 c2)
          · rw [decide_eq_false c2]
            refine iteT ?_
            have J' := J.take gw.w har c1 c2
            have hz1 : (iv Fo').length < sizeLine := by
              have := J.len
              rw [iv_len]
              exact Nat.lt_of_le_of_lt (Nat.le_trans this n4) (by decide)
            have hz2 : (iv Rw2).length < sizeLine := by
              have a1 := J.rnd.length_le_of_subset (l₂ := Fo') (fun x hx => J.rsub x hx)
              have := J.len
              rw [iv_len]
              exact Nat.lt_of_le_of_lt (Nat.le_trans (Nat.le_trans a1 this) n4) (by decide)
            refine ⟨_, rfl, .inl ⟨rfl, _, SqL.of i1⟩, _, rfl, lf, _, _, rfl, rfl, i1, hz1, ?_⟩
            have j2 : (upd H3 lf (.lst (iv Fo' ++ [V.int (ar.2 : Int)]))) lr = some (.lst (iv Rw2)) := by rw [upd_ne nfr.symm]; exact i2
            refine ⟨_, rfl, .inl ⟨rfl, _, SqL.of j2⟩, _, rfl, lr, _, _, rfl, rfl, j2, hz2, ?_⟩
            refine ⟨Fo' ++ [ar.2], Rw2 ++ [ar.2], _, _, rfl, Ex.mut (Ex.mut i0 hlf) hlr0, ?_, ?_, J', ?_⟩
            · rw [upd_ne nfr, iv_snoc]
              exact upd_same
            · rw [iv_snoc]
              exact upd_same
            · have l1 := J'.len
              rw [List.length_append, List.length_singleton] at l1
              rw [List.length_append, List.length_append, List.length_append, List.length_singleton, List.length_singleton] at *
              omega
        · rw [decide_eq_false (show ¬ V.int (ar.1 : Int) = V.int (here : Int) from fun z => c1 (by have := V.int.inj z; omega))]
          refine iteF ?_
          exact iteF (keep fun z => c1 z.1)
      · rintro σ H3 ⟨Fo', Rw2, b, c, rfl, i0, i1, i2, J, mm⟩
        have hl : us.length = as.length := Paired.length hall
        rw [hl] at J
        exact ⟨_, mm, Fo', Rw2, _, b, c, rfl, i0, i1, i2, J.next, rfl⟩
theorem ok_above_in (F : Fun K "above_in" "above_in" s_above_in f fd) (T : Bi mg) (C_led_from : Cal P w K mg base 1 "led_from" ["web", "place"] spLedFrom) : FnOk P w K mg base CX0 2 f fd ["web", "place"] spAboveIn := by
  refine F.ok sc_above_in (fun vs H Q E h => ?_) (fun cdv A outer s H vs Q E hr h => ?_)
  · obtain ⟨_, _, _, _, _, rfl, _⟩ := h
    rfl
  · obtain ⟨v, n, k, p, as, rfl, hw, gw, hp, q⟩ := h
    obtain ⟨z, hv, hz⟩ := id hw
    have n4 := gw.n4
    refine ⟨_, (pss_cons (ps_set (i := 2) sc_above_in.nd rfl (Or.inr rfl) (pe_cal C_led_from hr (by first | decide | exact Nat.le_refl _) rfl (pa_cons (pv 0) (pa_cons (pv 1) pa_nil))))
  (pss_one (ps_ret (pe_lc (own := [("k", 3)]) (g := gName 3) rfl sc_above_in.nd (pi_range1 rfl T.range (pa_cons (pe_ix ix_t (pv 0) pe_int (fun _ _ => rfl)) pa_nil)) (blkOk_by (own := [("k", 3)]) (N := N_above_in) (sc := defScope s_above_in) (by decide +kernel)) (fun _ _ _ _ _ => (pg_name (i := 3) sc_above_in.nd rfl (Or.inl rfl))) (fun _ _ _ _ _ => (pts_one (PW.pt (pw_and (pt_cmpR op_inI (pv 1) (pe_cal C_led_from hr (by first | decide | exact Nat.le_refl _) rfl (pa_cons (pv 0) (pa_cons (pv 3) pa_nil))) rfl) (pw_and1 (pt_cmpR op_notInI (pv 3) (pv 2) rfl)))))) (fun _ _ _ _ _ => (pv 3)))))), ?_⟩
    refine ⟨_, rfl, _, rfl, v, n, k, p, as, rfl, hw, gw, hp, fun lh H1 e1 hlh h1 => ?_⟩
    refine ⟨_, rfl, _, _, _, hv.ex e1, rfl, atI_nat (j := 0) rfl, (n : Int), rfl, by omega, by omega, fun D hD => ?_⟩
    refine comp_it (walk_range (lo := 0) (n := n)) hD (fun i y _ => y = .int (i : Int) ∧ (decide (p ∈ led n as i) && !decide (i ∈ led n as p)) = true) (fun i => (decide (p ∈ led n as i) && !decide (i ∈ led n as p)) = false) (by omega) (fun _ _ => trivial) yfn_ex (fun _ _ _ _ _ _ _ h => h) ?_ ?_
    · rintro i x _ H2 hi e2 _ hy Q1 Q2 k1 k2
      obtain ⟨rfl, rfl⟩ := yrange hy
      refine ⟨rfl, ?_⟩
      refine ⟨_, rfl, _, rfl, _, rfl, v, n, k, i, as, rfl, hw.ex (e1.trans e2), gw, hi, fun l H3 e3 hl h3 => ?_⟩
      refine ⟨p, l, led n as i, rfl, rfl, h3, _, rfl, ?_⟩
      by_cases c1 : p ∈ led n as i
      · rw [decide_eq_true c1]
        rw [decide_eq_true c1] at k1 k2
        refine iteT ⟨_, rfl, _, rfl, i, lh, led n as p, rfl, rfl, e3 _ _ (e2 _ _ h1), _, rfl, ?_⟩
        by_cases c2 : i ∈ led n as p
        · rw [decide_eq_true c2] at k1 k2 ⊢
          exact iteF (k2 _ e3 rfl)
        · rw [decide_eq_false c2] at k1 k2 ⊢
          exact iteT ⟨_, rfl, k1 _ _ e3 ⟨rfl, rfl⟩⟩
      · rw [decide_eq_false c1] at k1 k2 ⊢
        exact iteF (iteF (k2 _ e3 rfl))
    · intro us H' e' hus outs
      have eu := outs.filter (f := fun i => .int (i : Int)) (fun i y h => h) (fun i h => h)
      rw [eu] at hus
      exact q D H' (e1.trans e') (e1.free hD) hus
theorem any_idat (d : List Nat) : ∀ L : List (List Nat), ((L.map idat).any fun z => PyData.eqv z (idat d)) = decide (d ∈ L)
  | [] => rfl
  | e :: L => by
    show ((idat e :: L.map idat).any fun z => PyData.eqv z (idat d)) = _
    rw [List.any_cons, any_idat d L, eqv_idat, Bool.eq_iff_iff, Bool.or_eq_true, decide_eq_true_iff, decide_eq_true_iff, decide_eq_true_iff, List.mem_cons]
    exact ⟨fun h => h.elim (fun z => .inl z.symm) .inr, fun h => h.elim (fun z => .inl z.symm) .inr⟩
theorem ok_parts_in (F : Fun K "parts_in" "parts_in" s_parts_in f fd) (T : Bi mg) (C_led_from : Cal P w K mg base 1 "led_from" ["web", "place"] spLedFrom) : FnOk P w K mg base CX0 2 f fd ["web"] spPartsIn := by
  refine F.ok sc_parts_in (fun vs H Q E h => ?_) (fun cdv A outer s H vs Q E hr h => ?_)
  · obtain ⟨_, _, _, _, rfl, _⟩ := h
    rfl
  · obtain ⟨v, n, k, as, rfl, hw, gw, q⟩ := h
    obtain ⟨z, hv, hz⟩ := id hw
    have n4 := gw.n4
    refine ⟨_, (pss_cons (ps_set (i := 1) sc_parts_in.nd rfl (Or.inr rfl) (pe_lc (own := [("k", 3)]) (g := gName 3) rfl sc_parts_in.nd (pi_range1 rfl T.range (pa_cons (pe_ix ix_t (pv 0) pe_int (fun _ _ => rfl)) pa_nil)) (blkOk_by (own := [("k", 3)]) (N := N_parts_in) (sc := defScope s_parts_in) (by decide +kernel)) (fun _ _ _ _ _ => (pg_name (i := 3) sc_parts_in.nd rfl (Or.inl rfl))) (fun _ _ _ _ _ => pts_nil) (fun _ _ _ _ _ => (pe_cal C_led_from hr (by first | decide | exact Nat.le_refl _) rfl (pa_cons (pv 0) (pa_cons (pv 3) pa_nil))))))
  (pss_cons (ps_set (i := 2) sc_parts_in.nd rfl (Or.inl rfl) (pe_lst pa_nil))
  (pss_cons (ps_for PassesOwn.never rfl (pi_range1 rfl T.range (pa_cons (pe_ix ix_t (pv 0) pe_int (fun _ _ => rfl)) pa_nil)) (pg_name (i := 3) sc_parts_in.nd rfl (Or.inr rfl)) (pss_cons (ps_set (i := 4) sc_parts_in.nd rfl (Or.inl rfl) (pe_callTy call_tupL rfl T.tuple bt_tuple (pa_cons (pe_lc (own := [("j", 5)]) (g := gName 5) rfl sc_parts_in.nd (pi_list (pe_ix ix_l (pv 1) (pv 3) (fun _ _ => rfl))) (blkOk_by (own := [("j", 5)]) (N := N_parts_in) (sc := defScope s_parts_in) (by decide +kernel)) (fun _ _ _ _ _ => (pg_name (i := 5) sc_parts_in.nd rfl (Or.inl rfl))) (fun _ _ _ _ _ => (pts_one (pt_cmpR op_inI (pv 3) (pe_ix ix_l (pv 1) (pv 5) (fun _ _ => rfl)) rfl))) (fun _ _ _ _ _ => (pv 5))) pa_nil)))
  (pss_one (ps_if (pt_cmpR (op_notInD (room65 hr)) (pv 4) (pv 2) rfl) (pss_one (ps_expr (pe_bm PySem.F.plainAttrs_list PySem.F.slot_list_append PySem.F.type_list_append mt_append (pv 2) (pa_cons (pv 4) pa_nil)))) pss_nil))))
  (pss_one (ps_ret (pv 2)))))), ?_⟩
    refine ⟨_, rfl, _, _, _, hv, rfl, atI_nat (j := 0) rfl, (n : Int), rfl, by omega, by omega, fun D hD => ?_⟩
    refine comp_it (walk_range (lo := 0) (n := n)) hD (fun i y H => ∃ l, y = .ref l ∧ l ≠ D ∧ H l = some (.lst (iv (led n as i)))) (fun _ => False) (by omega) (fun _ _ => trivial) yfn_ex (fun i y H H' acc _ e ⟨l, e1, e2, e3⟩ => ⟨l, e1, e2, e _ _ e2 e3⟩) ?_ ?_
    · rintro i x _ H2 hi e2 ⟨acc, hacc⟩ hy Q1 Q2 k1 k2
      obtain ⟨rfl, rfl⟩ := yrange hy
      refine ⟨rfl, ?_⟩
      refine iteT (B := Q2 H2) ⟨_, rfl, _, rfl, v, n, k, i, as, rfl, hw.ex e2, gw, hi, fun l H3 e3 hl h3 => k1 _ _ e3 ⟨l, rfl, fun z => ?_, h3⟩⟩
      rw [z, hacc] at hl
      cases hl
    · intro lu H1 e1 hlu outs
      obtain ⟨len, hl⟩ := outs.all
      have led : ∀ i, i < n → ∃ l, lu[i]? = some (.ref l) ∧ H1 l = some (.lst (iv (led n as i))) := fun i hi => by
        have hx : lu[i]? = some (lu[i]'(by omega)) := List.getElem?_eq_getElem _
        obtain ⟨l, e, _, h⟩ := hl i _ hx
        exact ⟨l, by rw [hx, e], h⟩
      refine ⟨Nat.zero_le _, fun fo hfo => ?_⟩
      refine ⟨_, rfl, _, _, _, hv.ex (e1.trans (Ex.new hfo)), rfl, atI_nat (j := 0) rfl, (n : Int), rfl, by omega, by omega, ?_⟩
      refine for_it (walk_range (lo := 0) (n := n)) (fun i σ H' => ∃ (us : List V) (a b c : Option V), σ = [some v, some (.ref D), some (.ref fo), a, b, c] ∧ Ex H1 H' ∧ H' fo = some (.lst us) ∧ All2 (IsI H') us (partsF n as i))
        ⟨[], _, _, _, rfl, Ex.new hfo, upd_same, .nil⟩ (fun _ _ _ _ _ => trivial) ?_ ?_
      · rintro i x σ _ H2 hi ⟨us, a, b, c, rfl, e2, hus, al⟩ hy
        obtain ⟨rfl, rfl⟩ := yrange hy
        obtain ⟨l, hil, hll⟩ := led i hi
        refine ⟨_, rfl, _, rfl, D, _, _, _, rfl, rfl, e2 _ _ hlu, atI_nat hil, l, rfl, ⟨_, SqL.of (e2 _ _ hll)⟩, fun D2 hD2 => ?_⟩
        refine comp_it (walk_list (K := K) (a := l) (xs := iv (CA.led n as i))) hD2 (fun j y _ => y = .int (((CA.led n as i).getD j 0 : Nat) : Int) ∧ decide (i ∈ CA.led n as ((CA.led n as i).getD j 0)) = true) (fun j => decide (i ∈ CA.led n as ((CA.led n as i).getD j 0)) = false) ?_ (fun _ e => SqL.of (e _ _ (e2 _ _ hll))) yat_ex (fun _ _ _ _ _ _ _ h => h) ?_ ?_
        · have : (CA.led n as i).length ≤ n := by
            have := (led_nd (n := n) (as := as) i).length_le_of_subset (l₂ := List.range n) (fun x hx => List.mem_range.mpr (mem_led.mp hx).1)
            rw [List.length_range] at this
            exact this
          rw [iv_len]
          omega
        · rintro j x _ H3 hj e3 _ ⟨rfl, hx⟩ Q1 Q2 k1 k2
          have hj' : j < (CA.led n as i).length := by rw [iv_len] at hj; exact hj
          rw [iv_get hj'] at hx
          cases hx
          have hjn : (CA.led n as i).getD j 0 < n := by
            have : (CA.led n as i).getD j 0 ∈ CA.led n as i := by
              rw [List.getD_eq_getElem?_getD, List.getElem?_eq_getElem hj']
              exact List.getElem_mem hj'
            exact (mem_led.mp this).1
          obtain ⟨l2, hil2, hll2⟩ := led _ hjn
          refine ⟨rfl, ?_⟩
          refine ⟨_, rfl, _, rfl, _, rfl, D, _, _, _, rfl, rfl, e3 _ _ (e2 _ _ hlu), atI_nat hil2, i, l2, _, rfl, rfl, e3 _ _ (e2 _ _ hll2), _, rfl, ?_⟩
          by_cases c1 : i ∈ CA.led n as ((CA.led n as i).getD j 0)
          · rw [decide_eq_true c1] at k1 ⊢
            exact iteT ⟨_, rfl, k1 _ _ (Same.refl _) ⟨rfl, rfl⟩⟩
          · rw [decide_eq_false c1] at k2 ⊢
            exact iteF (k2 _ (Same.refl _) rfl)
        · intro os H3 e3 hos outs2
          have eo := outs2.filterL (ds := CA.led n as i) (p := fun j => decide (i ∈ CA.led n as j)) (by rw [iv_len]; exact Nat.le_refl _) (fun j y _ h => h) (fun j _ h => h)
          rw [iv_len, List.take_length] at eo
          have ep : os = iv (part n as i) := eo
          subst ep
          refine ⟨D2, _, rfl, SqL.of hos, fun tp htp => ?_⟩
          have e4 := e3.trans (Ex.new htp (o := .tup (iv (part n as i))))
          obtain ⟨H4, eH4⟩ : ∃ H4, H4 = upd H3 tp (.tup (iv (part n as i))) := ⟨_, rfl⟩
          rw [← eH4] at e4 ⊢
          have hp4 : IsI H4 (.ref tp) (part n as i) := by rw [eH4]; exact IsT.mk upd_same
          have hf4 : H4 fo = some (.lst us) := e4 _ _ hus
          have al4 : All2 (IsI H4) us (partsF n as i) := Paired.mapP al fun _ _ h => h.ex e4
          refine ⟨_, rfl, _, rfl, idat (part n as i), (partsF n as i).map idat, dp_i hp4, .lst (SqL.of hf4) (dpa_dials al4), (sd_idat _).shaped (by decide), (sd_list (n := 3) (sd_dials _)).shaped (by decide), ?_⟩
          rw [any_idat]
          refine ⟨_, rfl, ?_⟩
          have ps := partsF_succ (n := n) (as := as) i
          by_cases c1 : part n as i ∈ partsF n as i
          · rw [decide_eq_true c1]
            rw [if_pos c1] at ps
            refine iteF ⟨us, _, _, _, rfl, e2.trans e4, hf4, ?_⟩
            rw [ps]
            exact al4
          · rw [decide_eq_false c1]
            rw [if_neg c1] at ps
            have hfo1 : H1 fo = none := hfo
            have tm : Tm H4 (upd H4 fo (.lst (us ++ [.ref tp]))) := Tm.lst hf4
            refine iteT ⟨_, rfl, .inl ⟨rfl, _, SqL.of hf4⟩, _, rfl, fo, us, .ref tp, rfl, rfl, hf4, ?_, us ++ [.ref tp], _, _, _, rfl, Ex.mut (e2.trans e4) hfo1, upd_same, ?_⟩
            · have hle : us.length ≤ n := by
                rw [Paired.length al]
                have h1 := (partsF_nd (n := n) (as := as) i).length_le_of_subset (l₂ := (List.range n).map fun j => part n as j) (fun P hP => by
                  obtain ⟨j, hj, rfl⟩ := mem_partsF.mp hP
                  exact List.mem_map.mpr ⟨j, List.mem_range.mpr (by omega), rfl⟩)
                rw [List.length_map, List.length_range] at h1
                exact h1
              exact Nat.lt_of_le_of_lt (Nat.le_trans hle n4) (by decide)
            · rw [ps]
              exact all2_snoc (Paired.mapP al4 fun _ _ h => h.tm tm) (hp4.tm tm)
      · rintro σ H2 ⟨us, a, b, c, rfl, e2, hus, al⟩
        exact ⟨_, rfl, q fo us H2 (e1.trans e2) (e1.free hfo) hus al⟩
end
end CK

/-! flow_in, mark_of, marks_in -/
namespace CK
open PySem PySem.Spec PyProof.Rows L2 CA
theorem take_fold {α β : Type} (f : β → α → β) (b : β) (l : List α) {i : Nat} {x : α} (h : l[i]? = some x) : (l.take (i + 1)).foldl f b = f ((l.take i).foldl f b) x := by
  rw [List.take_add_one, h, List.foldl_append]
  rfl
theorem iv_at {d : List Nat} {i : Nat} {x : V} (h : (iv d)[i]? = some x) : ∃ m, d[i]? = some m ∧ x = .int (m : Int) := by
  unfold iv at h
  rw [List.getElem?_map] at h
  cases e : d[i]? with
  | none => rw [e] at h; cases h
  | some m =>
    rw [e] at h
    cases h
    exact ⟨m, rfl, rfl⟩
theorem atI_iv {d : List Nat} {i : Nat} (h : i < d.length) : atI (iv d) (i : Int) = some (.int ((d.getD i 0 : Nat) : Int)) := atI_nat (iv_get h)
section
variable {P : Program} {w : World} {K : PySem.W.Frag} {mg : Str → Option Value} {base : Heap} {f : Addr} {fd : FuncData}
theorem ok_flow_in (F : Fun K "flow_in" "flow_in" s_flow_in f fd) (T : Bi mg) (C_above_in : Cal P w K mg base 2 "above_in" ["web", "place"] spAboveIn) (C_gcd : Cal P w K mg base 1 "gcd" ["one", "other"] spGcd) : FnOk P w K mg base CX0 3 f fd ["web", "hours", "dial", "place"] spFlowIn := by
  refine F.ok sc_flow_in (fun vs H Q E h => ?_) (fun cdv A outer s H vs Q E hr h => ?_)
  · obtain ⟨_, _, _, _, _, _, _, rfl, _⟩ := h
    rfl
  · obtain ⟨v, y, n, k, p, as, d, rfl, hw, gw, hd, vd, hp, q⟩ := h
    refine ⟨_, (pss_cons (ps_set (i := 4) sc_flow_in.nd rfl (Or.inl rfl) (pv 1))
  (pss_cons (ps_for PassesOwn.never rfl (pi_list (pe_cal C_above_in hr (by first | decide | exact Nat.le_refl _) rfl (pa_cons (pv 0) (pa_cons (pv 3) pa_nil)))) (pg_name (i := 5) sc_flow_in.nd rfl (Or.inl rfl)) (pss_one (ps_set (i := 4) sc_flow_in.nd rfl (Or.inl rfl) (pe_cal C_gcd hr (by first | decide | exact Nat.le_refl _) rfl (pa_cons (pv 4) (pa_cons (pe_ix ix_t (pv 2) (pv 5) (fun _ _ => rfl)) pa_nil))))))
  (pss_one (ps_ret (pv 4))))), ?_⟩
    refine ⟨_, rfl, _, rfl, _, rfl, v, n, k, p, as, rfl, hw, gw, hp, fun l H1 e1 hl h1 => ?_⟩
    refine ⟨l, rfl, ⟨_, SqL.of h1⟩, ?_⟩
    refine for_it (walk_list (K := K) (a := l) (xs := iv (above n as p))) (fun i σ H' => Ex H1 H' ∧ ∃ c, σ = [some v, some (.int (k : Int)), some y, some (.int (p : Int)), some (.int ((((above n as p).take i).foldl (fun g x => Nat.gcd g (d.getD x 0)) k : Nat) : Int)), c]) ⟨Same.refl _, _, rfl⟩ (fun i σ H' _ h => SqL.of (h.1 _ _ h1)) ?_ ?_
    · rintro i x σ _ H2 hi ⟨e2, c, rfl⟩ ⟨rfl, hx⟩
      obtain ⟨m, hm, rfl⟩ := iv_at hx
      have hmn : m < d.length := by rw [vd.len]; exact ((mem_above hp).mp (List.mem_of_getElem? hm)).1
      refine ⟨_, rfl, _, rfl, _, rfl, _, _, _, hd.ex (e1.trans e2), rfl, atI_iv hmn, _, _, rfl, ?_⟩
      refine ⟨e2, some (V.int (m : Int)), ?_⟩
      rw [take_fold _ _ _ hm]
      rfl
    · rintro σ H2 ⟨e2, c, rfl⟩
      rw [iv_len, List.take_length]
      exact ⟨_, rfl, q _ (e1.trans e2)⟩
theorem ok_mark_of (F : Fun K "mark_of" "mark_of" s_mark_of f fd) (T : Bi mg) (C_flow_in : Cal P w K mg base 3 "flow_in" ["web", "hours", "dial", "place"] spFlowIn) (C_gcd : Cal P w K mg base 1 "gcd" ["one", "other"] spGcd) : FnOk P w K mg base CX0 4 f fd ["web", "hours", "dial", "part"] spMarkOf := by
  refine F.ok sc_mark_of (fun vs H Q E h => ?_) (fun cdv A outer s H vs Q E hr h => ?_)
  · obtain ⟨_, _, _, _, _, _, _, _, rfl, _⟩ := h
    rfl
  · obtain ⟨v, y, z, n, k, p, as, d, rfl, hw, gw, hd, vd, hp, hz, q⟩ := h
    have k2 := gw.k2
    refine ⟨_, (pss_cons (ps_set (i := 4) sc_mark_of.nd rfl (Or.inl rfl) (pe_cal C_flow_in hr (by first | decide | exact Nat.le_refl _) rfl (pa_cons (pv 0) (pa_cons (pv 1) (pa_cons (pv 2) (pa_cons (pe_ix ix_t (pv 3) pe_int (fun _ _ => rfl)) pa_nil))))))
  (pss_cons (ps_if (pt_cmpR op_eq (pe_callB call_lenT rfl T.len bt_len (pa_cons (pv 3) pa_nil)) pe_int (nomark _)) (pss_one (ps_ret (pe_tup (pa_cons (pv 4) (pa_cons (pe_op op_mod (pe_ix ix_t (pv 2) (pe_ix ix_t (pv 3) pe_int (fun _ _ => rfl)) (fun _ _ => rfl)) (pv 4)) pa_nil))))) pss_nil)
  (pss_cons (ps_set (i := 5) sc_mark_of.nd rfl (Or.inl rfl) (pv 4))
  (pss_cons (ps_for PassesOwn.never rfl (pi_tup (pv 3)) (pg_name (i := 6) sc_mark_of.nd rfl (Or.inl rfl)) (pss_one (ps_set (i := 5) sc_mark_of.nd rfl (Or.inl rfl) (pe_cal C_gcd hr (by first | decide | exact Nat.le_refl _) rfl (pa_cons (pv 5) (pa_cons (pe_ix ix_t (pv 2) (pv 6) (fun _ _ => rfl)) pa_nil))))))
  (pss_one (ps_ret (pe_tup (pa_cons (pv 4) (pa_cons (pv 5) pa_nil))))))))), ?_⟩
    have lp := part_len_pos (as := as) hp
    have hh := head_part (as := as) hp
    have hhn := ((mem_part hp).mp hh).1
    have ix0 : atI (iv (part n as p)) (0 : Int) = some (.int (((part n as p).getD 0 0 : Nat) : Int)) := atI_iv (i := 0) lp
    refine ⟨_, rfl, _, rfl, _, rfl, _, rfl, _, _, _, hz, rfl, ix0, v, y, n, k, _, as, d, rfl, hw, gw, hd, vd, hhn, fun H1 e1 => ?_⟩
    refine ⟨_, rfl, _, _, rfl, hz.ex e1, rfl, _, rfl, ?_⟩
    rw [iv_len]
    by_cases c1 : (part n as p).length = 1
    · rw [decide_eq_true (show V.int ((part n as p).length : Int) = V.int 1 by rw [c1]; rfl)]
      have fp := flow_pos (n := n) (as := as) (d := d) (p := (part n as p).getD 0 0) (show 0 < k by omega)
      refine iteT ⟨_, rfl, _, rfl, _, rfl, _, _, _, hz.ex e1, rfl, ix0, _, _, _, hd.ex e1, rfl, atI_iv (by rw [vd.len]; exact hhn), _, rfl, _, _, rfl, rfl, (by omega), by show 2 ≤ sizeLine; decide, fun t ht => ?_⟩
      refine q _ _ (e1.trans (Ex.new ht)) (IsT.mk ?_)
      rw [upd_same]
      unfold mark
      rw [if_pos c1]
      unfold iv
      simp only [List.map_cons, List.map_nil, Int.natCast_emod]
    · rw [decide_eq_false (show ¬ V.int ((part n as p).length : Int) = V.int 1 from fun z => c1 (by have := V.int.inj z; omega))]
      refine iteF ?_
      refine ⟨_, rfl, ?_⟩
      obtain ⟨tz, rfl, htz⟩ := id hz
      refine ⟨_, rfl, tz, rfl, ⟨_, SqT.of (e1 _ _ htz)⟩, ?_⟩
      refine for_it (walk_tup (K := K) (a := tz) (xs := iv (part n as p))) (fun i σ H' => Ex H1 H' ∧ ∃ c, σ = [some v, some (.int (k : Int)), some y, some (.ref tz), some (.int ((flow n as k d ((part n as p).getD 0 0) : Nat) : Int)), some (.int ((((part n as p).take i).foldl (fun g x => Nat.gcd g (d.getD x 0)) (flow n as k d ((part n as p).getD 0 0)) : Nat) : Int)), c]) ⟨Same.refl _, _, rfl⟩ (fun i σ H' _ h => SqT.of (h.1 _ _ (e1 _ _ htz))) ?_ ?_
      · rintro i x σ _ H2 hi ⟨e2, c, rfl⟩ ⟨rfl, hx⟩
        obtain ⟨m, hm, rfl⟩ := iv_at hx
        have hmn : m < d.length := by rw [vd.len]; exact ((mem_part hp).mp (List.mem_of_getElem? hm)).1
        refine ⟨_, rfl, _, rfl, _, rfl, _, _, _, hd.ex (e1.trans e2), rfl, atI_iv hmn, _, _, rfl, ?_⟩
        refine ⟨e2, some (V.int (m : Int)), ?_⟩
        rw [take_fold _ _ _ hm]
        rfl
      · rintro σ H2 ⟨e2, c, rfl⟩
        rw [iv_len, List.take_length]
        refine ⟨_, rfl, _, rfl, by show 2 ≤ sizeLine; decide, fun t ht => ?_⟩
        refine q _ _ ((e1.trans e2).trans (Ex.new ht)) (IsT.mk ?_)
        rw [upd_same]
        unfold mark CA.rest
        rw [if_neg c1]
        rfl
theorem ok_marks_in (F : Fun K "marks_in" "marks_in" s_marks_in f fd) (T : Bi mg) (C_parts_in : Cal P w K mg base 2 "parts_in" ["web"] spPartsIn) (C_mark_of : Cal P w K mg base 4 "mark_of" ["web", "hours", "dial", "part"] spMarkOf) : FnOk P w K mg base CX0 5 f fd ["web", "hours", "dial"] spMarksIn := by
  refine F.ok sc_marks_in (fun vs H Q E h => ?_) (fun cdv A outer s H vs Q E hr h => ?_)
  · obtain ⟨_, _, _, _, _, _, rfl, _⟩ := h
    rfl
  · obtain ⟨v, y, n, k, as, d, rfl, hw, gw, hd, vd, q⟩ := h
    refine ⟨_, (pss_one (ps_ret (pe_lc (own := [("part", 3)]) (g := gName 3) rfl sc_marks_in.nd (pi_list (pe_cal C_parts_in hr (by first | decide | exact Nat.le_refl _) rfl (pa_cons (pv 0) pa_nil))) (blkOk_by (own := [("part", 3)]) (N := N_marks_in) (sc := defScope s_marks_in) (by decide +kernel)) (fun _ _ _ _ _ => (pg_name (i := 3) sc_marks_in.nd rfl (Or.inl rfl))) (fun _ _ _ _ _ => pts_nil) (fun _ _ _ _ _ => (pe_cal C_mark_of hr (by first | decide | exact Nat.le_refl _) rfl (pa_cons (pv 0) (pa_cons (pv 1) (pa_cons (pv 2) (pa_cons (pv 3) pa_nil))))))))), ?_⟩
    refine ⟨_, rfl, v, n, k, as, rfl, hw, gw, fun l us H1 e1 hl h1 al => ?_⟩
    refine ⟨l, rfl, ⟨_, SqL.of h1⟩, fun D hD => ?_⟩
    have hul : us.length = (parts n as).length := Paired.length al
    refine comp_it (walk_list (K := K) (a := l) (xs := us)) hD (fun i y H' => ∃ m, ((marks n as k d).map mdat)[i]? = some m ∧ IsI H' y m) (fun _ => False) ?_ (fun _ e => SqL.of (e _ _ h1)) yat_ex (fun i y H H' acc ha e ⟨m, hm, h⟩ => ⟨m, hm, h.tm (Tm.ofEb e ha (fun _ z => nomatch z))⟩) ?_ ?_
    · have := parts_len (n := n) (as := as)
      have := (partsF_nd (n := n) (as := as) n).length_le_of_subset (l₂ := (List.range n).map fun j => part n as j) (fun P hP => by
        obtain ⟨j, hj, rfl⟩ := mem_partsF.mp hP
        exact List.mem_map.mpr ⟨j, List.mem_range.mpr (by omega), rfl⟩)
      rw [List.length_map, List.length_range] at this
      have n4 := gw.n4
      rw [hul]
      exact Nat.lt_of_le_of_lt (Nat.le_trans this n4) (by decide)
    · rintro i x _ H2 hi e2 _ ⟨rfl, hx⟩ Q1 Q2 k1 k2
      obtain ⟨Pt, hP, hxP⟩ := all2_get al hx
      obtain ⟨p, hp, rfl⟩ := mem_parts.mp (List.mem_of_getElem? hP)
      refine ⟨rfl, ?_⟩
      refine iteT (B := Q2 H2) ⟨_, rfl, _, rfl, _, rfl, _, rfl, v, y, x, n, k, p, as, d, rfl, hw.ex (e1.trans e2), gw, hd.ex (e1.trans e2), vd, hp, hxP.ex e2, fun u H3 e3 hu => k1 _ _ e3 ⟨_, ?_, hu⟩⟩
      unfold marks
      rw [List.getElem?_map, List.getElem?_map, hP]
      rfl
    · intro os H2 e2 hos outs
      obtain ⟨len, hl⟩ := outs.all
      refine q D os H2 (e1.trans e2) (e1.free hD) hos ?_
      have ll : os.length = ((marks n as k d).map mdat).length := by
        unfold marks
        rw [List.length_map, List.length_map, len, hul]
      refine all2_of ll fun i x m hx hm => ?_
      obtain ⟨m', hm', h⟩ := hl i x hx
      rw [hm] at hm'
      cases hm'
      exact h
end
end CK

/-! prime_to, ways_of, count_with -/
namespace CK
open PySem PySem.Spec PyProof.Rows L2 CA
theorem atI_rep {n i : Nat} (h : i < n) : atI (List.replicate n V.non) (i : Int) = some .non := atI_nat (by rw [List.getElem?_replicate, if_pos h])
theorem iv_at4 {d : List Nat} {i : Nat} {x : V} (h : (iv d)[i]? = some x) : ∃ m, d[i]? = some m ∧ x = .int (m : Int) := by
  unfold iv at h
  rw [List.getElem?_map] at h
  cases e : d[i]? with
  | none => rw [e] at h; cases h
  | some m =>
    rw [e] at h
    cases h
    exact ⟨m, rfl, rfl⟩
theorem pow4 {p m : Nat} (hp : p ≤ 24) (hm : m ≤ 4) : p ^ m ≤ 331776 := Nat.le_trans (Nat.pow_le_pow_left hp m) (Nat.le_trans (Nat.pow_le_pow_right (by decide) hm) (by decide))
section
variable {P : Program} {w : World} {K : PySem.W.Frag} {mg : Str → Option Value} {base : Heap} {f : Addr} {fd : FuncData}
theorem ok_prime_to (F : Fun K "prime_to" "prime_to" s_prime_to f fd) (T : Bi mg) : FnOk P w K mg base CX0 1 f fd ["number", "many"] spPrimeTo := by
  refine F.ok sc_prime_to (fun vs H Q E h => ?_) (fun cdv A outer s H vs Q E hr h => ?_)
  · obtain ⟨_, _, rfl, _⟩ := h
    rfl
  · obtain ⟨a, m, rfl, a1, a24, m4, q⟩ := h
    refine ⟨_, (pss_cons (ps_set (i := 2) sc_prime_to.nd rfl (Or.inl rfl) pe_int)
  (pss_cons (ps_for PassesOwn.never rfl (pi_range1 rfl T.range (pa_cons (pv 1) pa_nil)) (pg_name (i := 3) sc_prime_to.nd rfl (Or.inl rfl)) (pss_one (ps_aug (i := 2) sc_prime_to.nd rfl (Or.inl rfl) (pv 0) iop_mul)))
  (pss_cons (ps_par (i := 4) (j := 5) (by rfl) sc_prime_to.nd rfl rfl (by decide) rfl rfl (pa_cons (pv 0) (pa_cons pe_int pa_nil)) (by rfl))
  (pss_cons (ps_while PassesOwn.never (pt_cmpR op_gt (pv 4) pe_int (nomark _)) (pss_cons (ps_if (pt_cmpR op_eq (pe_op op_mod (pv 4) (pv 5)) pe_int (nomark _)) (pss_cons (ps_while PassesOwn.never (pt_cmpR op_eq (pe_op op_mod (pv 4) (pv 5)) pe_int (nomark _)) (pss_one (ps_aug (i := 4) sc_prime_to.nd rfl (Or.inl rfl) (pv 5) iop_fdiv)))
  (pss_cons (ps_set (i := 6) sc_prime_to.nd rfl (Or.inl rfl) pe_int)
  (pss_cons (ps_for PassesOwn.never rfl (pi_range1 rfl T.range (pa_cons (pv 1) pa_nil)) (pg_name (i := 3) sc_prime_to.nd rfl (Or.inl rfl)) (pss_one (ps_aug (i := 6) sc_prime_to.nd rfl (Or.inl rfl) (pv 5) iop_mul)))
  (pss_one (ps_set (i := 2) sc_prime_to.nd rfl (Or.inl rfl) (pe_op op_mul (pe_op op_fdiv (pv 2) (pv 6)) (pe_op op_sub (pv 6) pe_int))))))) pss_nil)
  (pss_one (ps_aug (i := 5) sc_prime_to.nd rfl (Or.inl rfl) pe_int ip_add))))
  (pss_one (ps_ret (pv 2))))))), ?_⟩
    refine ⟨_, rfl, (m : Int), rfl, by omega, by omega, ?_⟩
    have toN : ((m : Int)).toNat = m := by omega
    rw [toN]
    refine for_it (walk_range (lo := 0) (n := m)) (fun i σ H' => H' = H ∧ ∃ c, σ = [some (V.int (a : Int)), some (V.int (m : Int)), some (V.int ((a ^ i : Nat) : Int)), c, none, none, none]) ⟨rfl, none, by rw [Nat.pow_zero]; rfl⟩ (fun _ _ _ _ _ => trivial) ?_ ?_
    · rintro i x σ _ H2 hi ⟨rfl, c, rfl⟩ hy
      obtain ⟨rfl, rfl⟩ := yrange hy
      refine ⟨_, rfl, _, rfl, _, _, rfl, rfl, .inr ⟨by omega, by omega⟩, rfl, some (V.int (i : Int)), ?_⟩
      rw [Nat.pow_succ, Int.natCast_mul]
      rfl
    rintro σ Ha ⟨rfl, c, rfl⟩
    refine ⟨_, rfl, _, _, rfl, ?_⟩
    refine ⟨fun k σ H' => H' = Ha ∧ ∃ (L p r : Nat) (c z : Option V), σ = [some (V.int (a : Int)), some (V.int (m : Int)), some (V.int (r : Int)), c, some (V.int (L : Int)), some (V.int (p : Int)), z] ∧ r ≤ a ^ m ∧ 1 ≤ L ∧ L ≤ a ∧ 2 ≤ p ∧ (∀ d, 2 ≤ d → d < p → ¬ d ∣ L) ∧ k = L + 1 - p,
      ⟨_, rfl, a, 2, a ^ m, c, none, rfl, Nat.le_refl _, a1, Nat.le_refl _, Nat.le_refl _, fun d h1 h2 => by omega, rfl⟩, ?_⟩
    rintro k σ Hb ⟨rfl, L, p, r, c, z, rfl, hr, L1, La, p2, nd, rfl⟩
    refine ⟨_, rfl, _, _, rfl, rfl, _, rfl, ?_⟩
    refine ite2 (fun c0 => ?_) (fun c0 => ⟨_, rfl, q r hr⟩)
    have L2 : 1 < L := by have := of_decide_eq_true c0; omega
    have pL : p ≤ L := by
      rcases Nat.lt_or_ge L p with h | h
      · exact absurd (Nat.dvd_refl L) (nd L L2 h)
      · exact h
    refine ⟨_, fun _ _ z => z, ?_⟩
    refine ⟨_, rfl, _, rfl, _, _, rfl, rfl, by omega, rfl, _, rfl, ?_⟩
    have tail : ∀ (L' r' : Nat) (c' z' : Option V), r' ≤ a ^ m → 1 ≤ L' → L' ≤ L → (∀ d, 2 ≤ d → d < p + 1 → ¬ d ∣ L') → ∃ m', m' < L + 1 - p ∧ (Hb = Hb ∧ ∃ (L2 p2 r2 : Nat) (c2 z2 : Option V), [some (V.int (a : Int)), some (V.int (m : Int)), some (V.int (r' : Int)), c', some (V.int (L' : Int)), some (V.int ((p : Int) + 1)), z'] = [some (V.int (a : Int)), some (V.int (m : Int)), some (V.int (r2 : Int)), c2, some (V.int (L2 : Int)), some (V.int (p2 : Int)), z2] ∧ r2 ≤ a ^ m ∧ 1 ≤ L2 ∧ L2 ≤ a ∧ 2 ≤ p2 ∧ (∀ d, 2 ≤ d → d < p2 → ¬ d ∣ L2) ∧ m' = L2 + 1 - p2) :=
      fun L' r' c' z' h1 h2 h3 h4 => ⟨L' + 1 - (p + 1), by omega, rfl, L', p + 1, r', c', z', rfl, h1, h2, by omega, by omega, h4, rfl⟩
    refine ite2 (fun c1 => ?_) (fun c1 => ?_)
    · have dv : p ∣ L := by
        have := V.int.inj (of_decide_eq_true c1)
        exact Nat.dvd_of_mod_eq_zero (by omega)
      refine ⟨fun k σ H' => H' = Hb ∧ ∃ L' : Nat, σ = [some (V.int (a : Int)), some (V.int (m : Int)), some (V.int (r : Int)), c, some (V.int (L' : Int)), some (V.int (p : Int)), z] ∧ L' ∣ L ∧ 1 ≤ L' ∧ k = L', ⟨_, rfl, L, rfl, Nat.dvd_refl L, L1, rfl⟩, ?_⟩
      rintro k σ Hc ⟨rfl, L', rfl, dL, L1', rfl⟩
      refine ⟨_, rfl, _, rfl, _, _, rfl, rfl, by omega, rfl, _, rfl, ?_⟩
      refine ite2 (fun c2 => ?_) (fun c2 => ?_)
      · have dv2 : p ∣ k := by
          have := V.int.inj (of_decide_eq_true c2)
          exact Nat.dvd_of_mod_eq_zero (by omega)
        refine ⟨_, fun _ _ z => z, ?_⟩
        refine ⟨_, rfl, _, rfl, _, _, rfl, rfl, ⟨by omega, by omega⟩, ?_⟩
        refine ⟨k / p, Nat.div_lt_self (by omega) (by omega), rfl, k / p, ?_, Nat.dvd_trans (Nat.div_dvd_of_dvd dv2) dL, Nat.div_pos (Nat.le_of_dvd L1' dv2) (by omega), rfl⟩
        show [_, _, _, _, some (V.int ((k : Int) / (p : Int))), _, _] = _
        rw [Int.natCast_ediv]
      · have nd2 : ¬ p ∣ k := fun dd => by
          have h := Nat.mod_eq_zero_of_dvd dd
          have : decide (V.int ((k : Int) % (p : Int)) = V.int 0) = true := decide_eq_true (by rw [← Int.natCast_emod, h]; rfl)
          exact c2 this
        refine ⟨_, rfl, (m : Int), rfl, by omega, by omega, ?_⟩
        rw [toN]
        have kL : k ≤ L := Nat.le_of_dvd L1 dL
        refine for_it (walk_range (lo := 0) (n := m)) (fun i σ H' => H' = Hc ∧ ∃ c, σ = [some (V.int (a : Int)), some (V.int (m : Int)), some (V.int (r : Int)), c, some (V.int (k : Int)), some (V.int (p : Int)), some (V.int ((p ^ i : Nat) : Int))]) ⟨rfl, c, by rw [Nat.pow_zero]; rfl⟩ (fun _ _ _ _ _ => trivial) ?_ ?_
        · rintro i x σ _ H2 hi ⟨rfl, c, rfl⟩ hy
          obtain ⟨rfl, rfl⟩ := yrange hy
          refine ⟨_, rfl, _, rfl, _, _, rfl, rfl, .inr ⟨by omega, by omega⟩, rfl, some (V.int (i : Int)), ?_⟩
          rw [Nat.pow_succ, Int.natCast_mul]
          rfl
        rintro σ Hd ⟨rfl, c', rfl⟩
        have hp4 := pow4 (p := p) (m := m) (by omega) m4
        have pp : 0 < p ^ m := Nat.pow_pos (by omega)
        refine ⟨_, rfl, _, rfl, _, _, rfl, rfl, ⟨by omega, by omega⟩, _, rfl, _, _, rfl, rfl, _, _, rfl, rfl, .inr ⟨by omega, by omega⟩, ?_⟩
        refine ⟨_, rfl, _, _, rfl, rfl, ?_⟩
        have e1 : ((r : Int) / ((p ^ m : Nat) : Int)) * (((p ^ m : Nat) : Int) - 1) = ((r / p ^ m * (p ^ m - 1) : Nat) : Int) := by
          rw [Int.natCast_mul, Int.natCast_ediv, Int.natCast_sub (by omega)]
          rfl
        have le : r / p ^ m * (p ^ m - 1) ≤ a ^ m := Nat.le_trans (Nat.le_trans (Nat.mul_le_mul_left _ (Nat.sub_le _ _)) (Nat.div_mul_le_self r (p ^ m))) hr
        have := tail k (r / p ^ m * (p ^ m - 1)) c' (some (V.int ((p ^ m : Nat) : Int))) le L1' kL (fun d h1 h2 hd => by
          rcases Nat.lt_or_ge d p with h3 | h3
          · exact nd d h1 h3 (Nat.dvd_trans hd dL)
          · have : d = p := by omega
            subst this
            exact nd2 hd)
        rw [← e1] at this
        exact this
    · have nd2 : ¬ p ∣ L := fun dd => by
        have h := Nat.mod_eq_zero_of_dvd dd
        have : decide (V.int ((L : Int) % (p : Int)) = V.int 0) = true := decide_eq_true (by rw [← Int.natCast_emod, h]; rfl)
        exact c1 this
      refine ⟨_, rfl, _, _, rfl, rfl, ?_⟩
      exact tail L r c z hr L1 (Nat.le_refl L) (fun d h1 h2 hd => by
        rcases Nat.lt_or_ge d p with h3 | h3
        · exact nd d h1 h3 hd
        · have : d = p := by omega
          subst this
          exact nd2 hd)
theorem ok_ways_of (F : Fun K "ways_of" "ways_of" s_ways_of f fd) (T : Bi mg) (C_gcd : Cal P w K mg base 1 "gcd" ["one", "other"] spGcd) (C_prime_to : Cal P w K mg base 1 "prime_to" ["number", "many"] spPrimeTo) : FnOk P w K mg base CX0 2 f fd ["hours", "mark", "part", "dial"] spWaysOf := by
  refine F.ok sc_ways_of (fun vs H Q E h => ?_) (fun cdv A outer s H vs Q E hr h => ?_)
  · obtain ⟨_, _, _, _, _, _, _, _, rfl, _⟩ := h
    rfl
  · obtain ⟨u, z, l, k, g, r, n, P, rfl, hu, hz, hl, k1, k24, gk, rg, P1, P4, Pn, q⟩ := h
    refine ⟨_, (pss_cons (ps_asg (pv 1) (pg_tup rfl (pgs_cons (pg_name (i := 4) sc_ways_of.nd rfl (Or.inl rfl)) (pgs_cons (pg_name (i := 5) sc_ways_of.nd rfl (Or.inl rfl)) pgs_nil))))
  (pss_cons (ps_setLc (i := 6) (own := [("k", 11)]) (g := gName 11) rfl sc_ways_of.nd rfl rfl (sw_true rfl rfl rfl (by decide +kernel)) (pi_tup (pv 2)) (blkOk_by (own := [("k", 11)]) (N := N_ways_of) (sc := defScope s_ways_of) (by decide +kernel)) (fun _ _ _ _ _ => (pg_name (i := 11) sc_ways_of.nd rfl (Or.inl rfl))) (fun _ _ _ _ _ => (pts_one (pt_cmpR op_notN (pe_ix ix_l (pv 3) (pv 11) (fun _ _ => rfl)) pe_non (nomark _)))) (fun _ _ _ _ _ => (pe_ix ix_l (pv 3) (pv 11) (fun _ _ => rfl))))
  (pss_cons (ps_if (pt_cmpR op_eq (pe_callB call_lenT rfl T.len bt_len (pa_cons (pv 2) pa_nil)) pe_int (nomark _)) (pss_cons (ps_if (pt_cmpR (op_eqE hr.units) (pv 6) (pe_lst pa_nil) (nomark _)) (pss_one (ps_ret (pe_op op_fdiv (pv 0) (pv 4)))) pss_nil)
  (pss_one (ps_ret (pe_callTy call_intB rfl T.int bt_int (pa_cons (pe_cmpR op_eq (pe_op op_mod (pe_ix ix_l (pv 6) pe_int (fun _ _ => rfl)) (pv 4)) (pv 5) (nomark _)) pa_nil))))) pss_nil)
  (pss_cons (ps_set (i := 7) sc_ways_of.nd rfl (Or.inl rfl) (pv 4))
  (pss_cons (ps_for PassesOwn.never rfl (pi_list (pv 6)) (pg_name (i := 8) sc_ways_of.nd rfl (Or.inl rfl)) (pss_one (ps_set (i := 7) sc_ways_of.nd rfl (Or.inl rfl) (pe_cal C_gcd hr (by first | decide | exact Nat.le_refl _) rfl (pa_cons (pv 7) (pa_cons (pv 8) pa_nil))))))
  (pss_cons (ps_if (pt_cmpR op_ne (pe_op op_mod (pv 7) (pv 5)) pe_int (nomark _)) (pss_one (ps_ret pe_int)) pss_nil)
  (pss_cons (ps_set (i := 9) sc_ways_of.nd rfl (Or.inl rfl) (pe_op op_sub (pe_callB call_lenT rfl T.len bt_len (pa_cons (pv 2) pa_nil)) (pe_callB call_lenL rfl T.len bt_len (pa_cons (pv 6) pa_nil))))
  (pss_cons (ps_set (i := 10) sc_ways_of.nd rfl (Or.inl rfl) (pe_ifExp (pt_cmpR op_gt (pv 9) pe_int (nomark _)) (pe_cal C_prime_to hr (by first | decide | exact Nat.le_refl _) rfl (pa_cons (pe_op op_fdiv (pv 7) (pv 5)) (pa_cons (pv 9) pa_nil))) (pe_callTy call_intB rfl T.int bt_int (pa_cons (pe_cmpR op_eq (pv 7) (pv 5) (nomark _)) pa_nil))))
  (pss_cons (ps_for PassesOwn.never rfl (pi_range1 rfl T.range (pa_cons (pv 9) pa_nil)) (pg_name (i := 11) sc_ways_of.nd rfl (Or.inl rfl)) (pss_one (ps_aug (i := 10) sc_ways_of.nd rfl (Or.inl rfl) (pe_op op_fdiv (pv 0) (pv 7)) iop_mul)))
  (pss_one (ps_ret (pv 10)))))))))))), ?_⟩
    obtain ⟨tu, rfl, htu⟩ := id hu
    obtain ⟨tz, rfl, htz⟩ := id hz
    have gpos : 0 < g := Nat.pos_of_dvd_of_pos gk (by omega)
    have gle : g ≤ k := Nat.le_of_dvd (by omega) gk
    refine ⟨_, rfl, tu, _, rfl, SqT.of htu, rfl, _, _, rfl, _, _, rfl, rfl, ?_⟩
    refine ⟨_, rfl, tz, rfl, ⟨_, SqT.of htz⟩, fun D hD => ?_⟩
    refine comp_it (walk_tup (K := K) (a := tz) (xs := iv P)) hD (fun _ _ _ => False) (fun _ => True) (by rw [iv_len]; omega) (fun H' e => SqT.of (e _ _ htz)) yat_ex (fun _ _ _ _ _ _ _ h => h) ?_ ?_
    · rintro i x _ H2 hi e _ ⟨rfl, hx⟩ Q1 Q2 _ k2
      obtain ⟨m, hm, rfl⟩ := iv_at4 hx
      have mn := Pn m (List.mem_of_getElem? hm)
      refine ⟨rfl, ?_⟩
      refine ⟨_, rfl, _, rfl, l, _, _, _, rfl, rfl, e _ _ hl, atI_rep mn, rfl, _, rfl, ?_⟩
      exact iteF (k2 _ (Same.refl _) trivial)
    · intro us H1 e1 hus outs
      have hn := outs.none (fun _ _ h => h)
      subst hn
      refine ⟨_, rfl, _, _, rfl, hz.ex e1, rfl, _, rfl, ?_⟩
      rw [iv_len]
      by_cases c1 : P.length = 1
      · rw [decide_eq_true (show V.int (P.length : Int) = V.int 1 by rw [c1]; rfl)]
        refine iteT ⟨_, rfl, Nat.zero_le _, fun l0 hl0 => ?_⟩
        refine ⟨D, l0, _, rfl, rfl, (Ex.new hl0) _ _ hus, upd_same, sim_nil, _, rfl, ?_⟩
        refine iteT ⟨_, rfl, _, rfl, _, _, rfl, rfl, ⟨by omega, by omega⟩, ?_⟩
        have := q (k / g) _ (e1.trans (Ex.new (o := .lst []) hl0)) (by rw [c1, Nat.pow_one]; exact Nat.div_le_self k g)
        rw [Int.natCast_ediv] at this
        exact this
      · rw [decide_eq_false (show ¬ V.int (P.length : Int) = V.int 1 from fun z => c1 (by have := V.int.inj z; omega))]
        have rg' := rg c1
        have rpos : 0 < r := Nat.pos_of_dvd_of_pos rg' gpos
        have rle : r ≤ g := Nat.le_of_dvd gpos rg'
        refine iteF ?_
        refine ⟨_, rfl, ?_⟩
        refine ⟨_, rfl, D, rfl, ⟨_, SqL.of hus⟩, ?_⟩
        refine for_it (walk_list (K := K) (a := D) (xs := [])) (fun i σ H' => H' = H1 ∧ σ = [some (V.int (k : Int)), some (.ref tu), some (.ref tz), some (.ref l), some (V.int (g : Int)), some (V.int (r : Int)), some (.ref D), some (V.int (g : Int)), none, none, none, none]) ⟨rfl, rfl⟩ (fun i σ H' _ h => by rw [h.1]; exact SqL.of hus) (fun i x σ _ H2 hi => absurd hi (Nat.not_lt_zero i)) ?_
        rintro σ Ha ⟨rfl, rfl⟩
        refine ⟨_, rfl, _, rfl, _, _, rfl, rfl, by omega, rfl, _, rfl, ?_⟩
        have z0 : (!decide ((fun i j : Int => V.int (i % j)) (g : Int) (r : Int) = V.int 0)) = false := by
          show (!decide (V.int ((g : Int) % (r : Int)) = V.int 0)) = false
          rw [← Int.natCast_emod, Nat.mod_eq_zero_of_dvd rg']
          rfl
        rw [z0]
        refine iteF ?_
        refine ⟨_, rfl, _, _, rfl, hz.ex e1, _, rfl, _, _, rfl, SqL.of hus, _, _, rfl, rfl, ?_⟩
        rw [iv_len]
        have z1 : (fun i j : Int => V.int (i - j)) (P.length : Int) (([] : List V).length : Int) = V.int (P.length : Int) := by
          show V.int ((P.length : Int) - ((0 : Nat) : Int)) = _
          rw [Int.natCast_zero, Int.sub_zero]
        rw [z1]
        refine ⟨_, rfl, _, _, rfl, rfl, _, rfl, ?_⟩
        rw [decide_eq_true (show (0 : Int) < (P.length : Int) by omega)]
        refine iteT ⟨_, rfl, _, rfl, _, _, rfl, rfl, ⟨by omega, by omega⟩, _, rfl, g / r, P.length, ?_, Nat.div_pos rle rpos, Nat.le_trans (Nat.div_le_self g r) (by omega), P4, fun b hb => ?_⟩
        · rw [Int.natCast_ediv]
          rfl
        refine ⟨_, rfl, (P.length : Int), rfl, by omega, by omega, ?_⟩
        have toN : ((P.length : Int)).toNat = P.length := by omega
        rw [toN]
        refine for_it (walk_range (lo := 0) (n := P.length)) (fun i σ H' => H' = Ha ∧ ∃ c, σ = [some (V.int (k : Int)), some (.ref tu), some (.ref tz), some (.ref l), some (V.int (g : Int)), some (V.int (r : Int)), some (.ref D), some (V.int (g : Int)), none, some (V.int (P.length : Int)), some (V.int ((b * (k / g) ^ i : Nat) : Int)), c]) ⟨rfl, none, by rw [Nat.pow_zero, Nat.mul_one]; rfl⟩ (fun _ _ _ _ _ => trivial) ?_ ?_
        · rintro i x σ _ H2 hi ⟨rfl, c, rfl⟩ hy
          obtain ⟨rfl, rfl⟩ := yrange hy
          have kg : (k : Int) / (g : Int) = ((k / g : Nat) : Int) := by rw [Int.natCast_ediv]
          have kg24 : k / g ≤ 24 := Nat.le_trans (Nat.div_le_self k g) k24
          have kg1 : (0 : Int) ≤ (k : Int) / (g : Int) := by rw [kg]; first | exact Int.natCast_nonneg _ | exact Int.ofNat_le.mpr kg24
          have kg2 : (k : Int) / (g : Int) ≤ 24 := by rw [kg]; first | exact Int.natCast_nonneg _ | exact Int.ofNat_le.mpr kg24
          refine ⟨_, rfl, _, rfl, _, rfl, _, _, rfl, rfl, ⟨by omega, by omega⟩, _, _, rfl, rfl, .inr ⟨?_, ?_⟩, rfl, some (V.int (i : Int)), ?_⟩
          · exact Int.lt_of_lt_of_le (by decide) kg1
          · exact Int.lt_of_le_of_lt kg2 (by decide)
          · rw [Nat.pow_succ, ← Nat.mul_assoc, Int.natCast_mul, kg]
            rfl
        · rintro σ Hb ⟨rfl, c, rfl⟩
          refine ⟨_, rfl, q _ _ e1 ?_⟩
          have h1 : (g / r) ^ P.length * (k / g) ^ P.length ≤ k ^ P.length := by
            rw [← Nat.mul_pow]
            refine Nat.pow_le_pow_left ?_ _
            exact Nat.le_trans (Nat.mul_le_mul_right _ (Nat.div_le_self g r)) (Nat.mul_div_le k g)
          exact Nat.le_trans (Nat.mul_le_mul_right _ hb) h1
theorem ok_count_with (F : Fun K "count_with" "count_with" s_count_with f fd) (T : Bi mg) (C_parts_in : Cal P w K mg base 2 "parts_in" ["web"] spPartsIn) (C_mark_of : Cal P w K mg base 4 "mark_of" ["web", "hours", "dial", "part"] spMarkOf) (C_ways_of : Cal P w K mg base 2 "ways_of" ["hours", "mark", "part", "dial"] spWaysOf) : FnOk P w K mg base CX0 5 f fd ["web", "hours", "dial", "told"] spCountWith := by
  refine F.ok sc_count_with (fun vs H Q E h => ?_) (fun cdv A outer s H vs Q E hr h => ?_)
  · obtain ⟨_, _, _, _, _, _, _, rfl, _⟩ := h
    rfl
  · obtain ⟨v, y, l, n, k, as, d, rfl, hw, gw, hd, vd, hl, q⟩ := h
    have k2 := gw.k2
    have k24 := gw.k24
    have n4 := gw.n4
    refine ⟨_, (pss_cons (ps_set (i := 4) sc_count_with.nd rfl (Or.inl rfl) pe_int)
  (pss_cons (ps_for PassesOwn.never rfl (pi_list (pe_cal C_parts_in hr (by first | decide | exact Nat.le_refl _) rfl (pa_cons (pv 0) pa_nil))) (pg_name (i := 5) sc_count_with.nd rfl (Or.inl rfl)) (pss_one (ps_aug (i := 4) sc_count_with.nd rfl (Or.inl rfl) (pe_cal C_ways_of hr (by first | decide | exact Nat.le_refl _) rfl (pa_cons (pv 1) (pa_cons (pe_cal C_mark_of hr (by first | decide | exact Nat.le_refl _) rfl (pa_cons (pv 0) (pa_cons (pv 1) (pa_cons (pv 2) (pa_cons (pv 5) pa_nil))))) (pa_cons (pv 5) (pa_cons (pv 3) pa_nil))))) iop_mul)))
  (pss_one (ps_ret (pv 4))))), ?_⟩
    refine ⟨_, rfl, v, n, k, as, rfl, hw, gw, fun lp us H1 e1 hlp h1 al => ?_⟩
    refine ⟨lp, rfl, ⟨_, SqL.of h1⟩, ?_⟩
    refine for_it (walk_list (K := K) (a := lp) (xs := us)) (fun i σ H' => Ex H1 H' ∧ ∃ (c : Nat) (o : Option V), σ = [some v, some (.int (k : Int)), some y, some (.ref l), some (V.int (c : Int)), o] ∧ c ≤ k ^ ((((parts n as).take i).map List.length).sum)) ⟨Same.refl _, 1, none, rfl, Nat.le_refl _⟩ (fun i σ H' _ h => SqL.of (h.1 _ _ h1)) ?_ ?_
    · rintro i x σ _ H2 hi ⟨e2, c, o, rfl, hc⟩ ⟨rfl, hx⟩
      obtain ⟨Pt, hP, hxP⟩ := all2_get al hx
      obtain ⟨p, hp, rfl⟩ := mem_parts.mp (List.mem_of_getElem? hP)
      have kn : k ^ ((((parts n as).take (i + 1)).map List.length).sum) ≤ 4096 := by
        refine Nat.le_trans (Nat.pow_le_pow_right (by omega) (Nat.le_trans ?_ (parts_len (n := n) (as := as)))) gw.few
        have e := congrArg (fun L => (L.map List.length).sum) (List.take_append_drop (i + 1) (parts n as))
        simp only [List.map_append, List.sum_append] at e
        omega
      have tk : (((parts n as).take (i + 1)).map List.length).sum = (((parts n as).take i).map List.length).sum + (part n as p).length := by
        rw [List.take_add_one, hP, List.map_append, List.sum_append]
        rfl
      refine ⟨_, rfl, _, rfl, _, rfl, _, rfl, _, rfl, _, rfl, v, y, x, n, k, p, as, d, rfl, hw.ex (e1.trans e2), gw, hd.ex (e1.trans e2), vd, hp, hxP.ex e2, fun u H3 e3 hu => ?_⟩
      have plen : (part n as p).length ≤ 4 := by
        have := (part_nd (n := n) (as := as) p).length_le_of_subset (l₂ := List.range n) (fun x hx => List.mem_range.mpr ((mem_part hp).mp hx).1)
        rw [List.length_range] at this
        omega
      refine ⟨_, rfl, _, rfl, u, x, l, k, _, _, n, part n as p, rfl, hu, hxP.ex (e2.trans e3), e3 _ _ (e2 _ _ (e1 _ _ hl)), by omega, k24, ?_, ?_, part_len_pos hp, plen, fun z hz => ((mem_part hp).mp hz).1, fun c' H4 e4 hc' => ?_⟩
      · unfold mark
        split <;> exact flow_dvd
      · intro ne
        unfold mark
        rw [if_neg ne]
        exact (dvd_rest.mp (Nat.dvd_refl _)).1
      have c24 : c ≤ 4096 := Nat.le_trans hc (Nat.le_trans (Nat.pow_le_pow_right (by omega) (by omega)) kn)
      refine ⟨_, _, rfl, rfl, .inl ⟨by omega, by omega⟩, (e2.trans e3).trans e4, c * c', some x, ?_, ?_⟩
      · rw [Int.natCast_mul]
        rfl
      · rw [tk, Nat.pow_add]
        exact Nat.mul_le_mul hc hc'
    · rintro σ H2 ⟨e2, c, o, rfl, hc⟩
      refine ⟨_, rfl, q c _ (e1.trans e2) (Nat.le_trans hc ?_)⟩
      refine Nat.le_trans (Nat.pow_le_pow_right (by omega) (Nat.le_trans ?_ (parts_len (n := n) (as := as)))) gw.few
      rw [List.take_of_length_le (by rw [Paired.length al]; exact Nat.le_refl _)]
      exact Nat.le_refl _
end
end CK

/-! step, near_in, need_wish, need_few -/
namespace CK
open PySem PySem.Spec PyProof.Rows L2 CA
theorem cut_set {d : List Nat} {i : Nat} (x : Nat) (h : i < d.length) : cutV (iv d) none (some (i : Int)) ++ [V.int (x : Int)] ++ cutV (iv d) (some ((i : Int) + 1)) none = iv (d.set i x) := by
  have e : ((i : Int) + 1) = ((i + 1 : Nat) : Int) := by omega
  rw [e, cut_to _ (by rw [iv_len]; omega), cut_from _ (by rw [iv_len]; omega), List.set_eq_take_append_cons_drop, if_pos h]
  unfold iv
  rw [List.map_append, List.map_cons, List.map_take, List.map_drop, List.append_assoc]
  rfl
theorem atI_d {n k : Nat} {d : List Nat} (vd : VD n k d) {i : Nat} (h : i < n) : atI (iv d) (i : Int) = some (.int ((d.getD i 0 : Nat) : Int)) := atI_nat (iv_get (by rw [vd.len]; exact h))
theorem Outs.pick {R : Nat → V → Prop} {S : Nat → Prop} {n : Nat} {us : List V} (h : Outs R S n us) {α : Type} {T : V → α → Prop} {ds : List α} {p : α → Bool} (hn : n ≤ ds.length) (hR : ∀ i y e, ds[i]? = some e → R i y → T y e ∧ p e = true) (hS : ∀ i e, ds[i]? = some e → S i → p e = false) :
    All2 T us ((ds.take n).filter p) := by
  have step : ∀ i (hi : i < ds.length), ds.take (i + 1) = ds.take i ++ [ds[i]] := fun i hi => by
    rw [List.take_add_one, List.getElem?_eq_getElem hi]
    rfl
  induction h with
  | zero => exact .nil
  | @take i us y _ r ih =>
    obtain ⟨e, k⟩ := hR _ _ _ (List.getElem?_eq_getElem (show i < ds.length from hn)) r
    rw [step i hn, List.filter_append, List.filter_cons, if_pos k]
    exact all2_snoc (ih (Nat.le_of_succ_le hn)) e
  | @skip i us _ s ih =>
    have k := hS _ _ (List.getElem?_eq_getElem (show i < ds.length from hn)) s
    rw [step i hn, List.filter_append, List.filter_cons, if_neg (by rw [k]; decide), List.filter_nil, List.append_nil]
    exact ih (Nat.le_of_succ_le hn)
def ni (ns : List Int) : List Nat := ns.map Int.toNat
theorem ni_ii (d : List Nat) : ni (ii d) = d := by
  unfold ni ii
  rw [List.map_map]
  exact List.map_id'' (fun x => by show ((x : Int)).toNat = x; omega) d
theorem ks_of {H : Hp} : ∀ {us : List V} {es : List (List Nat)}, All2 (IsI H) us es → ∃ ks : List (Addr × List Int), us = ks.map (fun p => V.ref p.1) ∧ (∀ p ∈ ks, H p.1 = some (.tup (p.2.map V.int))) ∧ ks.map (·.2) = es.map ii
  | _, _, .nil => ⟨[], rfl, fun _ h => (nomatch h), rfl⟩
  | _, _, .cons (b := e) r t => by
    obtain ⟨ks, h1, h2, h3⟩ := ks_of t
    obtain ⟨a, rfl, ha⟩ := r
    refine ⟨(a, ii e) :: ks, by rw [h1]; rfl, fun p hp => ?_, by rw [List.map_cons, List.map_cons, h3]⟩
    rcases List.mem_cons.mp hp with rfl | hp
    · show H a = some (.tup ((ii e).map V.int))
      rw [iv_ii]
      exact ha
    · exact h2 p hp
theorem Asc.nd {as : List Arw} (h : Asc as) : as.Nodup := List.Pairwise.imp (fun {a b} h e => by
  rw [e] at h
  have := of_decide_eq_true h
  omega) h
theorem GW.len {n k : Nat} {as : List Arw} (h : GW n k as) : as.length ≤ 16 := by
  have := h.asc.nd.length_le_of_subset (l₂ := (List.range n).flatMap fun i => (List.range n).map fun j => (i, j)) (fun a ha => List.mem_flatMap.mpr ⟨a.1, List.mem_range.mpr (h.w.lt1 _ ha), List.mem_map.mpr ⟨a.2, List.mem_range.mpr (h.w.lt2 _ ha), rfl⟩⟩)
  rw [List.length_flatMap] at this
  simp only [List.length_map, List.length_range, List.map_const', List.sum_replicate_nat] at this
  have n4 := h.n4
  exact Nat.le_trans this (Nat.mul_le_mul n4 n4)
section
variable {P : Program} {w : World} {K : PySem.W.Frag} {mg : Str → Option Value} {base : Heap} {f : Addr} {fd : FuncData}
theorem ok_step (F : Fun K "step" "step" s_step f fd) (T : Bi mg) : FnOk P w K mg base CX0 1 f fd ["hours", "dial", "arrow"] spStep := by
  refine F.ok sc_step (fun vs H Q E h => ?_) (fun cdv A outer s H vs Q E hr h => ?_)
  · obtain ⟨_, _, _, _, _, _, _, rfl, _⟩ := h
    rfl
  · obtain ⟨y, z, n, k, as, d, a, rfl, gw, hd, vd, ha, ham, q⟩ := h
    refine ⟨_, (pss_cons (ps_asg (pv 2) (pg_tup rfl (pgs_cons (pg_name (i := 3) sc_step.nd rfl (Or.inl rfl)) (pgs_cons (pg_name (i := 4) sc_step.nd rfl (Or.inl rfl)) pgs_nil))))
  (pss_one (ps_ret (pe_op op_cat2 (pe_op op_cat2 (pe_slice sl_cut (pv 1) po_none (po_some (pv 4))) (pe_tup (pa_cons (pe_op op_mod (pe_op op_add (pe_ix ix_t (pv 1) (pv 4) (fun _ _ => rfl)) (pe_ix ix_t (pv 1) (pv 3) (fun _ _ => rfl))) (pv 0)) pa_nil))) (pe_slice sl_cut (pv 1) (po_some (pe_op op_add (pv 4) pe_int)) po_none))))), ?_⟩
    obtain ⟨ta, rfl, hta⟩ := id ha
    have l1 := gw.w.lt1 _ ham
    have l2 := gw.w.lt2 _ ham
    have k2 := gw.k2
    have n4 := gw.n4
    have len := vd.len
    refine ⟨_, rfl, ta, _, rfl, SqT.of hta, rfl, _, _, rfl, _, _, rfl, rfl, ?_⟩
    refine ⟨_, rfl, _, rfl, _, rfl, _, hd, fun v1 H1 e1 h1 => ?_⟩
    refine ⟨_, rfl, _, rfl, _, _, _, hd.ex e1, rfl, atI_d vd l2, _, rfl, _, rfl, _, _, _, hd.ex e1, rfl, atI_d vd l1, _, _, rfl, rfl, _, rfl, _, _, rfl, rfl, by omega, by show 1 ≤ sizeLine; decide, fun t ht => ?_⟩
    have c1 : (cutV (iv d) none (some (a.2 : Int))).length = a.2 := by rw [cut_to _ (by rw [iv_len]; omega), List.length_take, iv_len]; omega
    refine ⟨_, _, IsT.ex h1 (Ex.new ht), IsT.mk upd_same, by rw [c1]; show a.2 + 1 ≤ 100000; omega, fun v2 H2 e2 h2 => ?_⟩
    have ex2 := e1.trans ((Ex.new ht).trans e2)
    refine ⟨_, rfl, _, rfl, _, _, rfl, rfl, _, rfl, _, hd.ex ex2, fun v3 H3 e3 h3 => ?_⟩
    have c3 : (cutV (iv d) (some ((a.2 : Int) + 1)) none).length ≤ n := by
      have e : ((a.2 : Int) + 1) = ((a.2 + 1 : Nat) : Int) := by omega
      rw [e, cut_from _ (by rw [iv_len]; omega), List.length_drop, iv_len]
      omega
    have e4 : ((d.getD a.2 0 : Nat) : Int) + ((d.getD a.1 0 : Nat) : Int) = ((d.getD a.2 0 + d.getD a.1 0 : Nat) : Int) := by omega
    refine ⟨_, _, IsT.ex h2 e3, h3, ?_, fun u H4 e5 h4 => q u H4 ((ex2.trans e3).trans e5) ?_⟩
    · rw [List.length_append, c1]
      show a.2 + 1 + _ ≤ 100000
      have : (cutV (iv d) (some ((a.2 : Int) + 1)) none).length ≤ n := c3
      omega
    · have e6 : V.int ((((d.getD a.2 0 : Nat) : Int) + ((d.getD a.1 0 : Nat) : Int)) % (k : Int)) = V.int (((d.getD a.2 0 + d.getD a.1 0) % k : Nat) : Int) := by rw [e4, Int.natCast_emod]
      have h5 : IsT H4 u (cutV (iv d) none (some (a.2 : Int)) ++ [V.int ((((d.getD a.2 0 : Nat) : Int) + ((d.getD a.1 0 : Nat) : Int)) % (k : Int))] ++ cutV (iv d) (some ((a.2 : Int) + 1)) none) := h4
      rw [e6, cut_set _ (by omega)] at h5
      exact h5
theorem ok_need_wish (F : Fun K "need_wish" "need_wish" s_need_wish f fd) (T : Bi mg) (C_need_all : Cal P w K mg base 4 "need_all" ["web", "hours", "dial"] spNeedAll) (C_is_in : Cal P w K mg base 1 "is_in" ["value", "least", "most"] spIsIn) : FnOk P w K mg base CX0 5 f fd ["web", "hours", "dial", "wish"] spNeedWish := by
  refine F.ok sc_need_wish (fun vs H Q E h => ?_) (fun cdv A outer s H vs Q E hr h => ?_)
  · obtain ⟨_, _, _, _, _, _, _, _, rfl, _⟩ := h
    rfl
  · obtain ⟨v, y, z, n, k, as, d, ws, rfl, hw, gw, hd, vd, hz, wi, q⟩ := h
    refine ⟨_, (pss_cons (ps_expr (pe_cal C_need_all hr (by first | decide | exact Nat.le_refl _) rfl (pa_cons (pv 0) (pa_cons (pv 1) (pa_cons (pv 2) pa_nil)))))
  (pss_cons (ps_if (PW.pt (pw_or (pt_not (pt_val (pe_callB call_is rfl T.isi bt_isi (pa_cons (pv 3) (pa_cons (pe_ty rfl T.tuple bt_tuple) pa_nil))))) (pw_or1 (pt_cmpR op_ne (pe_callB call_lenT rfl T.len bt_len (pa_cons (pv 3) pa_nil)) (pe_ix ix_t (pv 0) pe_int (fun _ _ => rfl)) (nomark _))))) (pss_one ps_never) pss_nil)
  (pss_one (ps_if (pt_cmpR (op_neE hr.units) (pe_lc (own := [("one", 4)]) (g := gName 4) rfl sc_need_wish.nd (pi_tup (pv 3)) (blkOk_by (own := [("one", 4)]) (N := N_need_wish) (sc := defScope s_need_wish) (by decide +kernel)) (fun _ _ _ _ _ => (pg_name (i := 4) sc_need_wish.nd rfl (Or.inl rfl))) (fun _ _ _ _ _ => (pts_one (PW.pt (pw_and (pt_cmpR op_notN (pv 4) pe_non (nomark _)) (pw_and1 (pt_not (pt_val (pe_cal C_is_in hr (by first | decide | exact Nat.le_refl _) rfl (pa_cons (pv 4) (pa_cons pe_int (pa_cons (pe_op op_sub (pv 1) pe_int) pa_nil))))))))))) (fun _ _ _ _ _ => (pv 4))) (pe_lst pa_nil) (nomark _)) (pss_one ps_never) pss_nil)))), ?_⟩
    have n4 := gw.n4
    refine ⟨_, rfl, _, rfl, _, rfl, v, y, n, k, as, d, rfl, hw, gw, hd, vd, fun H1 e1 => ?_⟩
    obtain ⟨zz, hv, _⟩ := id hw
    obtain ⟨tz, rfl, htz⟩ := id hz
    refine ⟨_, rfl, _, _, _, _, rfl, .tup (hz.ex e1), kb_tt, _, rfl, ?_⟩
    refine iteF ?_
    refine ⟨_, rfl, _, _, rfl, hz.ex e1, _, rfl, _, _, _, hv.ex e1, rfl, atI_nat (j := 0) rfl, rfl, _, rfl, ?_⟩
    have wl : (wv ws).length = n := by unfold wv; rw [List.length_map]; exact wi.1
    have e0 : (!decide (V.int ((wv ws).length : Int) = V.int (n : Int))) = false := by rw [wl]; simp
    rw [e0]
    refine iteF ?_
    refine ⟨_, rfl, tz, rfl, ⟨_, SqT.of (e1 _ _ htz)⟩, fun D hD => ?_⟩
    refine comp_it (walk_tup (K := K) (a := tz) (xs := wv ws)) hD (fun _ _ _ => False) (fun _ => True) (by rw [wl]; omega) (fun H' e => SqT.of (e _ _ (e1 _ _ htz))) yat_ex (fun _ _ _ _ _ _ _ h => h) ?_ ?_
    · rintro i x H0 H' hi e _ ⟨rfl, hx⟩ Q1 Q2 _ k2
      refine ⟨rfl, ?_⟩
      have hx' : x = .non ∨ ∃ m : Nat, x = .int (m : Int) ∧ m < k := by
        unfold wv at hx
        rw [List.getElem?_map] at hx
        cases ew : ws[i]? with
        | none => rw [ew] at hx; cases hx
        | some o =>
          rw [ew] at hx
          cases o with
          | none => cases hx; exact .inl rfl
          | some m => cases hx; exact .inr ⟨m, rfl, wi.2 m (List.mem_of_getElem? ew)⟩
      rcases hx' with rfl | ⟨m, rfl, hm⟩
      · refine ⟨_, rfl, rfl, _, rfl, ?_⟩
        refine iteF ?_
        exact iteF (k2 _ (Same.refl _) trivial)
      · refine ⟨_, rfl, rfl, _, rfl, ?_⟩
        refine iteT ?_
        refine ⟨_, rfl, _, rfl, _, _, rfl, rfl, _, _, _, true, rfl, ⟨fun _ => by omega, fun _ => rfl⟩, true, rfl, ?_⟩
        exact iteF (k2 _ (Same.refl _) trivial)
    · intro us H2 e2 hus outs
      have hn := outs.none (fun _ _ h => h)
      subst hn
      refine ⟨Nat.zero_le _, fun r hr' => ?_⟩
      refine ⟨D, r, [], rfl, rfl, (Ex.new hr') _ _ hus, upd_same, sim_nil, _, rfl, iteF ?_⟩
      exact q _ ((e1.trans e2).trans (Ex.new hr'))
theorem ok_need_few (F : Fun K "need_few" "need_few" s_need_few f fd) (T : Bi mg) (C_count_with : Cal P w K mg base 5 "count_with" ["web", "hours", "dial", "told"] spCountWith) : FnOk P w K mg base CX0 6 f fd ["web", "hours", "dial"] spNeedFew := by
  refine F.ok sc_need_few (fun vs H Q E h => ?_) (fun cdv A outer s H vs Q E hr h => ?_)
  · obtain ⟨_, _, _, _, _, _, rfl, _⟩ := h
    rfl
  · obtain ⟨v, y, n, k, as, d, rfl, hw, gw, hd, vd, q⟩ := h
    refine ⟨_, (pss_one (ps_if (pt_cmpR op_gt (pe_cal C_count_with hr (by first | decide | exact Nat.le_refl _) rfl (pa_cons (pv 0) (pa_cons (pv 1) (pa_cons (pv 2) (pa_cons (pe_op op_rep (pe_lst (pa_cons pe_non pa_nil)) (pe_ix ix_t (pv 0) pe_int (fun _ _ => rfl))) pa_nil))))) (pe_num rfl T.dials) (nomark _)) (pss_one ps_never) pss_nil)), ?_⟩
    have n4 := gw.n4
    obtain ⟨zz, hv, _⟩ := id hw
    refine ⟨_, rfl, _, rfl, _, rfl, by show 1 ≤ sizeLine; decide, fun l0 hl0 => ?_⟩
    have ex1 : Ex H (upd H l0 (.lst [V.non])) := Ex.new hl0
    refine ⟨_, rfl, _, _, _, hv.ex ex1, rfl, atI_nat (j := 0) rfl, l0, (n : Int), _, rfl, rfl, upd_same, by omega, by omega, ?_, fun l1 hl1 => ?_⟩
    · have : ((n : Int)).toNat = n := by omega
      rw [this]
      show 1 * n ≤ sizeLine
      rw [Nat.one_mul]
      exact Nat.le_trans n4 (by decide)
    · have toN : ((n : Int)).toNat = n := by omega
      have er : (List.replicate ((n : Int)).toNat [V.non]).flatten = List.replicate n V.non := by
        rw [toN, List.flatten_replicate_singleton]
      rw [er]
      have ex2 := ex1.trans (Ex.new hl1 (o := .lst (List.replicate n V.non)))
      refine ⟨v, y, l1, n, k, as, d, rfl, hw.ex ex2, gw, hd.ex ex2, vd, upd_same, fun c H2 e2 hc => ?_⟩
      refine ⟨_, _, rfl, rfl, _, rfl, ?_⟩
      rw [decide_eq_false (show ¬ (4096 : Int) < (c : Int) by omega)]
      exact iteF (q _ (ex2.trans e2))
theorem ok_near_in (F : Fun K "near_in" "near_in" s_near_in f fd) (T : Bi mg) (C_step : Cal P w K mg base 1 "step" ["hours", "dial", "arrow"] spStep) : FnOk P w K mg base CX0 2 f fd ["web", "hours", "dial"] spNearIn := by
  refine F.ok sc_near_in (fun vs H Q E h => ?_) (fun cdv A outer s H vs Q E hr h => ?_)
  · obtain ⟨_, _, _, _, _, _, rfl, _⟩ := h
    rfl
  · obtain ⟨v, y, n, k, as, d, rfl, hw, gw, hd, vd, q⟩ := h
    refine ⟨_, (pss_cons (ps_setLc (i := 3) (own := [("arrow", 4)]) (g := gName 4) rfl sc_near_in.nd rfl rfl (sw_true rfl rfl rfl (by decide +kernel)) (pi_tup (pe_ix ix_t (pv 0) pe_int (fun _ _ => rfl))) (blkOk_by (own := [("arrow", 4)]) (N := N_near_in) (sc := defScope s_near_in) (by decide +kernel)) (fun _ _ _ _ _ => (pg_name (i := 4) sc_near_in.nd rfl (Or.inl rfl))) (fun _ _ _ _ _ => pts_nil) (fun _ _ _ _ _ => (pe_cal C_step hr (by first | decide | exact Nat.le_refl _) rfl (pa_cons (pv 1) (pa_cons (pv 2) (pa_cons (pv 4) pa_nil))))))
  (pss_one (ps_ret (pe_callB (cr_sortedT rfl) rfl T.sorted bt_sorted (pa_cons (pe_callTy (cr_setOfT rfl hr.units) rfl T.set bt_set (pa_cons (pe_lc (own := [("there", 5)]) (g := gName 5) rfl sc_near_in.nd (pi_list (pv 3)) (blkOk_by (own := [("there", 5)]) (N := N_near_in) (sc := defScope s_near_in) (by decide +kernel)) (fun _ _ _ _ _ => (pg_name (i := 5) sc_near_in.nd rfl (Or.inl rfl))) (fun _ _ _ _ _ => (pts_one (pt_cmpR (op_neI hr.units) (pv 5) (pv 2) (nomark _)))) (fun _ _ _ _ _ => (pv 5))) pa_nil)) pa_nil))))), ?_⟩
    have n4 := gw.n4
    have k2' := gw.k2
    have k24 := gw.k24
    have al16 := gw.len
    obtain ⟨zz, hv, hz⟩ := id hw
    obtain ⟨us, hu, hall⟩ := id hz
    obtain ⟨ta, rfl, hta⟩ := id hu
    have ul : us.length = as.length := Paired.length hall
    refine ⟨_, rfl, _, _, _, hv, rfl, atI_nat (j := 1) rfl, ta, rfl, ⟨_, SqT.of hta⟩, fun D hD => ?_⟩
    refine comp_it (walk_tup (K := K) (a := ta) (xs := us)) hD (fun i y H => ∃ a, as[i]? = some a ∧ IsI H y (stp k d a)) (fun _ => False) (by omega) (fun _ e => SqT.of (e _ _ hta)) yat_ex (fun i y H H' acc ha e ⟨a, h1, h2⟩ => ⟨a, h1, h2.tm (Tm.ofEb e ha (fun _ z => nomatch z))⟩) ?_ ?_
    · rintro i x _ H2 hi e2 _ ⟨rfl, hx⟩ Q1 Q2 k1 k2
      obtain ⟨ar, har, hxa⟩ := all2_get hall hx
      refine ⟨rfl, ?_⟩
      exact iteT (B := Q2 H2) ⟨_, rfl, _, rfl, _, rfl, y, x, n, k, as, d, ar, rfl, gw, hd.ex e2, vd, IsT.ex hxa e2, List.mem_of_getElem? har, fun u H3 e3 hu => k1 _ _ e3 ⟨ar, har, hu⟩⟩
    · intro os H1 e1 hos outs
      obtain ⟨len, hl⟩ := outs.all
      have ol : os.length = (as.map (stp k d)).length := by rw [List.length_map, len, ul]
      have al : All2 (IsI H1) os (as.map (stp k d)) := all2_of ol fun i x m hx hm => by
        obtain ⟨a, h1, h2⟩ := hl i x hx
        rw [List.getElem?_map, h1] at hm
        cases hm
        exact h2
      refine ⟨_, rfl, D, rfl, ⟨_, SqL.of hos⟩, fun D2 hD2 => ?_⟩
      refine comp_it (walk_list (K := K) (a := D) (xs := os)) hD2 (fun i y H => ∃ e, (as.map (stp k d))[i]? = some e ∧ e ≠ d ∧ IsI H y e) (fun i => ∃ e, (as.map (stp k d))[i]? = some e ∧ e = d) (by rw [ol, List.length_map]; omega) (fun _ e => SqL.of (e _ _ hos)) yat_ex (fun i y H H' acc ha e ⟨a, h1, h0, h2⟩ => ⟨a, h1, h0, h2.tm (Tm.ofEb e ha (fun _ z => nomatch z))⟩) ?_ ?_
      · rintro i x _ H2 hi e2 _ ⟨rfl, hx⟩ Q1 Q2 k1 k2
        obtain ⟨e, he, hxe⟩ := all2_get al hx
        refine ⟨rfl, ?_⟩
        refine ⟨_, rfl, _, rfl, e, d, hxe.ex e2, hd.ex (e1.trans e2), _, rfl, ?_⟩
        by_cases c : e = d
        · rw [decide_eq_true c]
          exact iteF (k2 _ (Same.refl _) ⟨e, he, c⟩)
        · rw [decide_eq_false c]
          exact iteT ⟨_, rfl, k1 _ _ (Same.refl _) ⟨e, he, c, hxe.ex e2⟩⟩
      · intro ps H2 e2 hps outs2
        have al2 : All2 (IsI H2) ps (((as.map (stp k d)).take os.length).filter fun e => !decide (e = d)) := outs2.pick (by rw [ol]; exact Nat.le_refl _)
          (fun i y e he ⟨e', h1, h2, h3⟩ => by
            rw [he] at h1
            cases h1
            exact ⟨h3, by simp [h2]⟩)
          (fun i e he ⟨e', h1, h2⟩ => by
            rw [he] at h1
            cases h1
            simp [h2])
        rw [ol, List.take_length] at al2
        have pl := Paired.length al2
        obtain ⟨ks, k1, k2, k3⟩ := ks_of al2
        have fl : ((as.map (stp k d)).filter fun e => !decide (e = d)).length ≤ 16 := Nat.le_trans (List.length_filter_le _ _) (by rw [List.length_map]; exact al16)
        have kl : ks.length = ps.length := by rw [k1, List.length_map]
        have mem : ∀ p ∈ ks, ∃ e, e ∈ ((as.map (stp k d)).filter fun e => !decide (e = d)) ∧ p.2 = ii e := fun p hp => by
          have : p.2 ∈ ks.map (·.2) := List.mem_map.mpr ⟨p, hp, rfl⟩
          rw [k3] at this
          obtain ⟨e, he, h⟩ := List.mem_map.mp this
          exact ⟨e, he, h.symm⟩
        have vde : ∀ e, e ∈ ((as.map (stp k d)).filter fun e => !decide (e = d)) → VD n k e := fun e he => by
          obtain ⟨a, ha, rfl⟩ := List.mem_map.mp (List.mem_filter.mp he).1
          exact vd.stp (by omega) a
        refine ⟨D2, ks, rfl, by rw [← k1]; exact SqL.of hps, fun p hp => SqT.of (k2 p hp), by omega, fun sa L hsa hL1 hL2 => ?_⟩
        have e3 : Ex H2 (upd H2 sa (SetTO P w sa L)) := Ex.new hsa
        refine ⟨sa, L, n, 64, rfl, upd_same, fun p hp => SqT.of (e3 _ _ (k2 p (hL1 p hp))), gw.n1, fun p hp => ?_, fun L' pa perm nd lt64 sorted hpa => ?_⟩
        · obtain ⟨e, he, h⟩ := mem p (hL1 p hp)
          have ve := vde e he
          rw [h]
          refine ⟨by unfold ii; rw [List.length_map]; exact ve.len, fun m hm => ?_⟩
          obtain ⟨x, hx, rfl⟩ := List.mem_map.mp hm
          have := ve.lt x hx
          omega
        · refine q pa _ (L'.map fun q => ni q.2) _ (((e1.trans e2).trans e3).trans (Ex.new hpa)) ?_ upd_same ?_ ?_
          · exact (e1.trans (e2.trans e3)).free hpa
          · refine all2_of (by rw [List.length_map, List.length_map]) fun i x m hx hm => ?_
            rw [List.getElem?_map] at hx hm
            cases eq : L'[i]? with
            | none => rw [eq] at hx; cases hx
            | some p =>
              rw [eq] at hx hm
              cases hx
              cases hm
              have pk := hL1 p (perm.mem_iff.mp (List.mem_of_getElem? eq))
              obtain ⟨e, he, h⟩ := mem p pk
              have h1 := (e3.trans (Ex.new hpa (o := .lst (L'.map fun q => V.ref q.1)))) _ _ (k2 p pk)
              rw [h, iv_ii] at h1
              show IsI _ _ (ni p.2)
              rw [h, ni_ii]
              exact IsT.mk h1
          · intro e
            have key : e ∈ L'.map (fun q => ni q.2) ↔ e ∈ ((as.map (stp k d)).filter fun e => !decide (e = d)) := by
              constructor
              · intro he
                obtain ⟨p, hp, rfl⟩ := List.mem_map.mp he
                obtain ⟨e', he', h⟩ := mem p (hL1 p (perm.mem_iff.mp hp))
                rw [h, ni_ii]
                exact he'
              · intro he
                have : ii e ∈ ks.map (·.2) := by rw [k3]; exact List.mem_map.mpr ⟨e, he, rfl⟩
                obtain ⟨p, hp, h⟩ := List.mem_map.mp this
                obtain ⟨q', hq, h'⟩ := List.mem_map.mp (hL2 p hp)
                refine List.mem_map.mpr ⟨q', perm.mem_iff.mpr hq, ?_⟩
                rw [h', h, ni_ii]
            rw [key, List.mem_filter, List.mem_map]
            constructor
            · rintro ⟨⟨a, ha, rfl⟩, h⟩
              exact ⟨⟨a, ha, rfl⟩, by simpa using h⟩
            · rintro ⟨⟨a, ha, rfl⟩, h⟩
              exact ⟨⟨a, ha, rfl⟩, by simpa using h⟩
end
end CK

/-! Dicts whose keys are dials; the promises of the walks over them -/
namespace CK
open PySem PySem.Spec PyProof.Rows L2 CA
/-- a dict's entries, by dials -/
abbrev KV {β : Type} (R : V → β → Prop) (kvs : List (List L2.Key × V)) (G : List (List Nat × β)) : Prop := All2 (fun kv p => kv.1 = ik p.1 ∧ R kv.2 p.2) kvs G
section
variable {β : Type} {R : V → β → Prop}
theorem KV.len {kvs : List (List L2.Key × V)} {G : List (List Nat × β)} (h : KV R kvs G) : kvs.length = G.length := Paired.length h
theorem KV.keys : ∀ {kvs : List (List L2.Key × V)} {G : List (List Nat × β)}, KV R kvs G → kvs.map (·.1) = (G.map (·.1)).map ik
  | _, _, .nil => rfl
  | _, _, .cons r t => by
    have := KV.keys t
    rw [List.map_cons, List.map_cons, List.map_cons, this, r.1]
theorem KV.none {e : List Nat} : ∀ {kvs : List (List L2.Key × V)} {G : List (List Nat × β)}, KV R kvs G → e ∉ G.map (·.1) → valV kvs (ik e) = none
  | _, _, .nil, _ => rfl
  | _, _, .cons (a := kv) (b := p) r t, h => by
    have ih := KV.none (e := e) t (fun z => h (List.mem_cons_of_mem _ z))
    have ne : kv.1 ≠ ik e := fun z => h (by rw [r.1] at z; rw [← ik_inj z]; exact List.mem_cons_self)
    unfold valV at ih ⊢
    rw [List.find?_cons_of_neg (by simpa using ne)]
    exact ih
theorem KV.get {e : List Nat} {b : β} : ∀ {kvs : List (List L2.Key × V)} {G : List (List Nat × β)}, KV R kvs G → (G.map (·.1)).Nodup → (e, b) ∈ G → ∃ v, valV kvs (ik e) = some v ∧ R v b
  | _, _, .cons (a := kv) (b := p) r t, nd, h => by
    rw [List.map_cons, List.nodup_cons] at nd
    rcases List.mem_cons.mp h with rfl | h
    · refine ⟨kv.2, ?_, r.2⟩
      unfold valV
      rw [List.find?_cons_of_pos (by simpa using r.1)]
      rfl
    · obtain ⟨v, hv, rv⟩ := KV.get t nd.2 h
      have ne : kv.1 ≠ ik e := fun z => nd.1 (by rw [r.1] at z; rw [ik_inj z]; exact List.mem_map.mpr ⟨_, h, rfl⟩)
      refine ⟨v, ?_, rv⟩
      unfold valV at hv ⊢
      rw [List.find?_cons_of_neg (by simpa using ne)]
      exact hv
theorem KV.any {e : List Nat} : ∀ {kvs : List (List L2.Key × V)} {G : List (List Nat × β)}, KV R kvs G → ((kvs.any fun kv => decide (kv.1 = ik e)) = true ↔ e ∈ G.map (·.1))
  | _, _, .nil => by simp
  | _, _, .cons (a := kv) (b := p) r t => by
    rw [List.any_cons, Bool.or_eq_true, KV.any t, List.map_cons, List.mem_cons, decide_eq_true_iff, r.1]
    exact ⟨fun h => h.imp (fun z => (ik_inj z).symm) id, fun h => h.imp (fun z => by rw [z]) id⟩
theorem KV.putNew {e : List Nat} {b : β} {v : V} {kvs : List (List L2.Key × V)} {G : List (List Nat × β)} (h : KV R kvs G) (hn : e ∉ G.map (·.1)) (r : R v b) : KV R (putK kvs (ik e) v) (G ++ [(e, b)]) := by
  unfold putK
  rw [if_neg (fun z => hn (h.any.mp z))]
  exact all2_snoc h ⟨rfl, r⟩
theorem KV.chg {e : List Nat} {b : β} {v : V} (r : R v b) : ∀ {kvs : List (List L2.Key × V)} {G : List (List Nat × β)}, KV R kvs G → KV R (kvs.map fun kv => if kv.1 = ik e then (kv.1, v) else kv) (G.map fun p => if p.1 = e then (e, b) else p)
  | _, _, .nil => .nil
  | _, _, .cons (a := kv) (b := p) r' t => by
    refine .cons ?_ (KV.chg r t)
    show (if kv.1 = ik e then (kv.1, v) else kv).1 = ik (if p.1 = e then (e, b) else p).1 ∧ R (if kv.1 = ik e then (kv.1, v) else kv).2 (if p.1 = e then (e, b) else p).2
    by_cases c : kv.1 = ik e
    · rw [if_pos c]
      have : p.1 = e := ik_inj (r'.1.symm.trans c)
      rw [if_pos this]
      exact ⟨c, r⟩
    · rw [if_neg c]
      have : ¬ p.1 = e := fun z => c (by rw [r'.1, z])
      rw [if_neg this]
      exact r'
theorem KV.putOld {e : List Nat} {b : β} {v : V} {kvs : List (List L2.Key × V)} {G : List (List Nat × β)} (h : KV R kvs G) (hn : e ∈ G.map (·.1)) (r : R v b) : KV R (putK kvs (ik e) v) (G.map fun p => if p.1 = e then (e, b) else p) := by
  unfold putK
  rw [if_pos (h.any.mpr hn)]
  exact KV.chg r h
theorem KV.mp {R' : V → β → Prop} {kvs : List (List L2.Key × V)} {G : List (List Nat × β)} (h : KV R kvs G) (k : ∀ v b, R v b → R' v b) : KV R' kvs G := Paired.mapP h fun _ _ ⟨a, b⟩ => ⟨a, k _ _ b⟩
end
theorem dget_i {H : Hp} {a : Addr} {y : V} {e : List Nat} {kvs : List (List L2.Key × V)} (h : H a = some (.dT kvs)) (hy : IsI H y e) : DGet H a y (valV kvs (ik e)) := by
  obtain ⟨b, rfl, hb⟩ := hy
  exact DGet.t h (by rw [ik_kV]; exact hb)
theorem dget_r {H : Hp} {a : Addr} {y : V} {e : List Nat} {kvs : List (List L2.Key × V)} (h : Rd H a (.dT kvs)) (hy : IsI H y e) : DGet H a y (valV kvs (ik e)) := by
  obtain ⟨b, rfl, hb⟩ := hy
  exact .inr ⟨kvs, ik e, b, h, rfl, by rw [ik_kV]; exact hb, rfl⟩
theorem dput_i {H : Hp} {a : Addr} {y v : V} {e : List Nat} {kvs : List (List L2.Key × V)} (h : H a = some (.dT kvs)) (hy : IsI H y e) (hl : kvs.length < sizeLine) : DPut H a y v (upd H a (.dT (putK kvs (ik e) v))) := by
  obtain ⟨b, rfl, hb⟩ := hy
  exact DPut.t h (by rw [ik_kV]; exact hb) hl
/-- distances -/
def RN (v : V) (j : Nat) : Prop := v = .int (j : Int)
theorem vd_ne {n k : Nat} {d : List Nat} (h : VD n k d) (n1 : 1 ≤ n) : d ≠ [] := fun z => by have := h.len; rw [z] at this; simp at this; omega
theorem LI.le {n k : Nat} {as : List Arw} {F : List (List Nat × Nat)} (gw : GW n k as) (nd : (F.map (·.1)).Nodup) (h : ∀ p ∈ F, VD n k p.1) : F.length ≤ 4096 := by
  have := dials_le (n := n) (k := k) nd (fun d hd => by obtain ⟨p, hp, rfl⟩ := List.mem_map.mp hd; exact h p hp)
  rw [List.length_map] at this
  exact Nat.le_trans this gw.few
/-- all distances by the edges E -/
structure All (E : List Nat → List Nat → Prop) (n k : Nat) (d : List Nat) (F : List (List Nat × Nat)) : Prop where
  nd : (F.map (·.1)).Nodup
  iff : ∀ e j, (e, j) ∈ F ↔ Dst E d e j
  few : F.length ≤ 4096
  lt : ∀ p ∈ F, p.2 < 4096
  vd : ∀ p ∈ F, VD n k p.1
theorem All.key {E : List Nat → List Nat → Prop} {n k : Nat} {d e : List Nat} {F : List (List Nat × Nat)} (h : All E n k d F) : e ∈ F.map (·.1) ↔ ∃ j, Dst E d e j := by
  rw [mem_fst]
  exact ⟨fun ⟨j, z⟩ => ⟨j, (h.iff e j).mp z⟩, fun ⟨j, z⟩ => ⟨j, (h.iff e j).mpr z⟩⟩
def spFrom : Sp := fun vs H Q _ => ∃ (v y : V) (n k : Nat) (as : List Arw) (d : List Nat), vs = [v, .int (k : Int), y] ∧ IsWeb H v n as ∧ GW n k as ∧ IsI H y d ∧ VD n k d ∧
  ∀ l kvs F H', Ex H H' → H l = none → H' l = some (.dT kvs) → KV RN kvs F → All (Ef as k) n k d F → Q (.ref l) H'
def spStepsTo : Sp := fun vs H Q _ => ∃ (v y : V) (n k : Nat) (as : List Arw) (d : List Nat), vs = [v, .int (k : Int), y] ∧ IsWeb H v n as ∧ GW n k as ∧ IsI H y d ∧ VD n k d ∧
  ∀ l kvs F H', Ex H H' → H l = none → H' l = some (.dT kvs) → KV RN kvs F → All (Eb' as k) n k d F → Q (.ref l) H'
def spNeedTwo : Sp := fun vs H Q _ => ∃ (v y z : V) (n k : Nat) (as : List Arw) (d e : List Nat), vs = [v, .int (k : Int), y, z] ∧ IsWeb H v n as ∧ GW n k as ∧ IsI H y d ∧ VD n k d ∧ IsI H z e ∧ VD n k e ∧ ∀ H', Ex H H' → Q .non H'
/-! ### the order of words -/
theorem alt_irr (a : Arw) : alt a a = false := decide_eq_false (by omega)
theorem alt_tr {a b c : Arw} (h : alt a b = true) (h' : alt b c = true) : alt a c = true := by
  have := of_decide_eq_true h
  have := of_decide_eq_true h'
  exact decide_eq_true (by omega)
theorem alt_tri (a b : Arw) : a = b ∨ alt a b = true ∨ alt b a = true := by
  obtain ⟨x, y⟩ := a
  obtain ⟨z, u⟩ := b
  by_cases c : (x, y) = (z, u)
  · exact .inl c
  · have : ¬ (x = z ∧ y = u) := fun ⟨h1, h2⟩ => c (by rw [h1, h2])
    rcases Nat.lt_trichotomy x z with h | h | h
    · exact .inr (.inl (decide_eq_true (.inl h)))
    · rcases Nat.lt_trichotomy y u with h' | h' | h'
      · exact .inr (.inl (decide_eq_true (.inr ⟨h, h'⟩)))
      · exact absurd ⟨h, h'⟩ this
      · exact .inr (.inr (decide_eq_true (.inr ⟨h.symm, h'⟩)))
    · exact .inr (.inr (decide_eq_true (.inl h)))
theorem wlt_irr : ∀ w : List Arw, wlt w w = false
  | [] => rfl
  | a :: w => by
    show (if a = a then wlt w w else alt a a) = false
    rw [if_pos rfl]
    exact wlt_irr w
theorem wlt_tr : ∀ {u v w : List Arw}, wlt u v = true → wlt v w = true → wlt u w = true
  | [], _ :: _, _ :: _, _, _ => rfl
  | _, [], [], h, h' => by cases h'
  | _ :: _, [], _, h, _ => by cases h
  | [], [], _, h, _ => by cases h
  | _, _ :: _, [], _, h => by cases h
  | a :: u, b :: v, c :: w, h, h' => by
    have h1 : (if a = b then wlt u v else alt a b) = true := h
    have h2 : (if b = c then wlt v w else alt b c) = true := h'
    show (if a = c then wlt u w else alt a c) = true
    by_cases c1 : a = b
    · subst c1
      rw [if_pos rfl] at h1
      by_cases c2 : a = c
      · rw [if_pos c2] at h2 ⊢
        exact wlt_tr h1 h2
      · rw [if_neg c2] at h2 ⊢
        exact h2
    · rw [if_neg c1] at h1
      by_cases c2 : b = c
      · subst c2
        rw [if_neg c1]
        exact h1
      · rw [if_neg c2] at h2
        have := alt_tr h1 h2
        by_cases c3 : a = c
        · subst c3
          rw [alt_irr] at this
          cases this
        · rw [if_neg c3]
          exact this
theorem wlt_tri : ∀ u v : List Arw, u = v ∨ wlt u v = true ∨ wlt v u = true
  | [], [] => .inl rfl
  | [], _ :: _ => .inr (.inl rfl)
  | _ :: _, [] => .inr (.inr rfl)
  | a :: u, b :: v => by
    by_cases c : a = b
    · subst c
      show a :: u = a :: v ∨ (if a = a then wlt u v else alt a a) = true ∨ (if a = a then wlt v u else alt a a) = true
      rw [if_pos rfl, if_pos rfl]
      rcases wlt_tri u v with h | h | h
      · exact .inl (by rw [h])
      · exact .inr (.inl h)
      · exact .inr (.inr h)
    · show a :: u = b :: v ∨ (if a = b then wlt u v else alt a b) = true ∨ (if b = a then wlt v u else alt b a) = true
      rw [if_neg c, if_neg (Ne.symm c)]
      rcases alt_tri a b with h | h | h
      · exact absurd h c
      · exact .inr (.inl h)
      · exact .inr (.inr h)
/-- u ≤ v -/
def wle (u v : List Arw) : Prop := wlt v u = false
theorem wle_refl (u : List Arw) : wle u u := wlt_irr u
theorem wle_tr {u v w : List Arw} (h : wle u v) (h' : wle v w) : wle u w := by
  unfold wle at *
  rw [Bool.eq_false_iff]
  intro z
  rcases wlt_tri u v with c | c | c
  · subst c; rw [z] at h'; cases h'
  · have := wlt_tr z c
    rw [this] at h'; cases h'
  · rw [c] at h; cases h
theorem wle_lt {u v : List Arw} (h : wlt u v = true) : wle u v := by
  unfold wle
  rw [Bool.eq_false_iff]
  intro z
  have := wlt_tr h z
  rw [wlt_irr] at this
  cases this
theorem wle_anti {u v : List Arw} (h : wle u v) (h' : wle v u) : u = v := by
  rcases wlt_tri u v with c | c | c
  · exact c
  · unfold wle at h'; rw [c] at h'; cases h'
  · unfold wle at h; rw [c] at h; cases h
/-- one more arrow behind words of one length -/
theorem wle_snoc : ∀ {u v : List Arw} {a : Arw}, u.length = v.length → wle u v → wle (u ++ [a]) (v ++ [a])
  | [], [], a, _, _ => wle_refl _
  | x :: u, y :: v, a, hl, h => by
    have h : (if y = x then wlt v u else alt y x) = false := h
    show (if y = x then wlt (v ++ [a]) (u ++ [a]) else alt y x) = false
    by_cases c : y = x
    · rw [if_pos c] at h ⊢
      exact wle_snoc (by simpa using hl) h
    · rw [if_neg c] at h ⊢
      exact h
/-- the word leads from d to e by arrows of the web -/
def Ld (as : List Arw) (k : Nat) (d e : List Nat) (w : List Arw) : Prop := (∀ a ∈ w, a ∈ as) ∧ runw k d w = e
/-- the least of the shortest words -/
structure Least (as : List Arw) (k : Nat) (d e : List Nat) (w : List Arw) : Prop where
  ld : Ld as k d e w
  short : ∀ v, Ld as k d e v → w.length ≤ v.length
  least : ∀ v, Ld as k d e v → v.length = w.length → wle w v
theorem Least.uniq {as : List Arw} {k : Nat} {d e : List Nat} {w v : List Arw} (a : Least as k d e w) (b : Least as k d e v) : w = v := by
  have l : w.length = v.length := Nat.le_antisymm (a.short v b.ld) (b.short w a.ld)
  exact wle_anti (a.least v b.ld l.symm) (b.least w a.ld l)
def spWayBetween : Sp := fun vs H Q _ => ∃ (v y z : V) (n k : Nat) (as : List Arw) (d e : List Nat), vs = [v, .int (k : Int), y, z] ∧ IsWeb H v n as ∧ GW n k as ∧ IsI H y d ∧ VD n k d ∧ IsI H z e ∧ VD n k e ∧
  (¬ Rc as k d e → ∀ H', Ex H H' → Q .non H') ∧ (∀ u w H', Ex H H' → IsW H' u w → Least as k d e w → Q u H')
def spFewestMet : Sp := fun vs H Q _ => ∃ (v y z : V) (n k : Nat) (as : List Arw) (d : List Nat) (ws : List (Option Nat)), vs = [v, .int (k : Int), y, z] ∧ IsWeb H v n as ∧ GW n k as ∧ IsI H y d ∧ VD n k d ∧ IsT H z (wv ws) ∧ Wish n k ws ∧
  ((∀ e j, Dst (Ef as k) d e j → ¬ Fits ws e) → ∀ H', Ex H H' → Q .non H') ∧ (∀ (m : Nat) H', Ex H H' → (∃ e, Dst (Ef as k) d e m ∧ Fits ws e) → (∀ e j, Dst (Ef as k) d e j → Fits ws e → m ≤ j) → Q (.int (m : Int)) H')
end CK

/-! _law_step, _law_from, steps_to, steps_from -/
namespace CK
open PySem PySem.Spec PyProof.Rows L2 CA
theorem sz4096 {m : Nat} (h : m ≤ 4096) : m < sizeLine := Nat.lt_of_le_of_lt h (by decide)
/-- what the loops leave of the turns behind -/
def ms (F : List (List Nat × Nat)) (rows : List (List Nat)) : Nat := 2 * (4096 - F.length) + (if rows = [] then 0 else 1)
theorem _root_.CA.BI.vd {E : List Nat → List Nat → Prop} {n k L : Nat} {d : List Nat} {F : List (List Nat × Nat)} {M : List (List Nat)} (h : BI E d L F M) (hv : ∀ j e, Wk E d j e → VD n k e) : ∀ p ∈ F, VD n k p.1 := fun p hp => hv _ _ (h.sound p hp).1.1
theorem _root_.CA.LI.vd {E : List Nat → List Nat → Prop} {n k L : Nat} {d : List Nat} {F : List (List Nat × Nat)} {M : List (List Nat)} (h : LI E d L F M) (hv : ∀ j e, Wk E d j e → VD n k e) : ∀ p ∈ F, VD n k p.1 := fun p hp => hv _ _ (h.sound p hp).1.1
theorem _root_.CA.LI.all {E : List Nat → List Nat → Prop} {n k L : Nat} {as : List Arw} {d : List Nat} {F : List (List Nat × Nat)} (gw : GW n k as) (h : LI E d L F []) (hv : ∀ j e, Wk E d j e → VD n k e) : All E n k d F where
  nd := h.nd
  iff := h.done
  few := CK.LI.le gw h.nd (h.vd hv)
  lt := fun p hp => Nat.lt_of_lt_of_le (h.lt p hp) (CK.LI.le gw h.nd (h.vd hv))
  vd := h.vd hv
section
variable {P : Program} {w : World} {K : PySem.W.Frag} {mg : Str → Option Value} {base : Heap} {f : Addr} {fd : FuncData}
theorem ok_law_step (F : Fun K "_law_step" "_law_step" s_law_step f fd) (T : Bi mg) : FnOk P w K mg base CX0 1 f fd ["_law_hours", "_law_dial_here", "_law_arrow"] spStep := by
  refine F.ok sc_law_step (fun vs H Q E h => ?_) (fun cdv A outer s H vs Q E hr h => ?_)
  · obtain ⟨_, _, _, _, _, _, _, rfl, _⟩ := h
    rfl
  · obtain ⟨y, z, n, k, as, d, a, rfl, gw, hd, vd, ha, ham, q⟩ := h
    refine ⟨_, (pss_one (ps_ret (pe_op op_cat2 (pe_op op_cat2 (pe_slice sl_cut (pv 1) po_none (po_some (pe_ix ix_t (pv 2) pe_int (fun _ _ => rfl)))) (pe_tup (pa_cons (pe_op op_mod (pe_callTy call_intI rfl T.int bt_int (pa_cons (pe_op op_add (pe_ix ix_t (pv 1) (pe_ix ix_t (pv 2) pe_int (fun _ _ => rfl)) (fun _ _ => rfl)) (pe_ix ix_t (pv 1) (pe_ix ix_t (pv 2) pe_int (fun _ _ => rfl)) (fun _ _ => rfl))) pa_nil)) (pv 0)) pa_nil))) (pe_slice sl_cut (pv 1) (po_some (pe_op op_add (pe_ix ix_t (pv 2) pe_int (fun _ _ => rfl)) pe_int)) po_none)))), ?_⟩
    have ha : IsT H z [.int (a.1 : Int), .int (a.2 : Int)] := ha
    have l1 := gw.w.lt1 _ ham
    have l2 := gw.w.lt2 _ ham
    have k2 := gw.k2
    have n4 := gw.n4
    have len := vd.len
    refine ⟨_, rfl, _, rfl, _, _, _, ha, rfl, atI_nat (j := 1) rfl, _, rfl, _, hd, fun v1 H1 e1 h1 => ?_⟩
    refine ⟨_, rfl, _, rfl, _, _, _, ha.ex e1, rfl, atI_nat (j := 1) rfl, _, _, _, hd.ex e1, rfl, atI_d vd l2, _, rfl, _, rfl, _, _, _, ha.ex e1, rfl, atI_nat (j := 0) rfl, _, _, _, hd.ex e1, rfl, atI_d vd l1, _, _, rfl, rfl, _, rfl, _, rfl, _, _, rfl, rfl, by omega, by show 1 ≤ sizeLine; decide, fun t ht => ?_⟩
    have c1 : (cutV (iv d) none (some (a.2 : Int))).length = a.2 := by rw [cut_to _ (by rw [iv_len]; omega), List.length_take, iv_len]; omega
    refine ⟨_, _, IsT.ex h1 (Ex.new ht), IsT.mk upd_same, by rw [c1]; show a.2 + 1 ≤ 100000; omega, fun v2 H2 e2 h2 => ?_⟩
    have ex2 := e1.trans ((Ex.new ht).trans e2)
    refine ⟨_, rfl, _, rfl, _, _, _, ha.ex ex2, rfl, atI_nat (j := 1) rfl, _, _, rfl, rfl, _, rfl, _, hd.ex ex2, fun v3 H3 e3 h3 => ?_⟩
    have c3 : (cutV (iv d) (some ((a.2 : Int) + 1)) none).length ≤ n := by
      have e : ((a.2 : Int) + 1) = ((a.2 + 1 : Nat) : Int) := by omega
      rw [e, cut_from _ (by rw [iv_len]; omega), List.length_drop, iv_len]
      omega
    have e4 : ((d.getD a.2 0 : Nat) : Int) + ((d.getD a.1 0 : Nat) : Int) = ((d.getD a.2 0 + d.getD a.1 0 : Nat) : Int) := by omega
    refine ⟨_, _, IsT.ex h2 e3, h3, ?_, fun u H4 e5 h4 => q u H4 ((ex2.trans e3).trans e5) ?_⟩
    · rw [List.length_append, c1]
      show a.2 + 1 + _ ≤ 100000
      have : (cutV (iv d) (some ((a.2 : Int) + 1)) none).length ≤ n := c3
      omega
    · have e6 : V.int ((((d.getD a.2 0 : Nat) : Int) + ((d.getD a.1 0 : Nat) : Int)) % (k : Int)) = V.int (((d.getD a.2 0 + d.getD a.1 0) % k : Nat) : Int) := by rw [e4, Int.natCast_emod]
      have h5 : IsT H4 u (cutV (iv d) none (some (a.2 : Int)) ++ [V.int ((((d.getD a.2 0 : Nat) : Int) + ((d.getD a.1 0 : Nat) : Int)) % (k : Int))] ++ cutV (iv d) (some ((a.2 : Int) + 1)) none) := h4
      rw [e6, cut_set _ (by omega)] at h5
      exact h5
theorem ok_law_from (F : Fun K "_law_from" "_law_from" s_law_from f fd) (T : Bi mg) (C_law_step : Cal P w K mg base 1 "_law_step" ["_law_hours", "_law_dial_here", "_law_arrow"] spStep) : FnOk P w K mg base CX0 2 f fd ["_law_web_here", "_law_hours", "_law_dial_here"] spFrom := by
  refine F.ok sc_law_from (fun vs H Q E h => ?_) (fun cdv A outer s H vs Q E hr h => ?_)
  · obtain ⟨_, _, _, _, _, _, rfl, _⟩ := h
    rfl
  · obtain ⟨v, y, n, k, as, d, rfl, hw, gw, hd, vd, q⟩ := h
    refine ⟨_, (pss_cons (ps_par (i := 3) (j := 4) (by rfl) sc_law_from.nd rfl rfl (by decide) rfl rfl (pa_cons (pe_disp1 (hu_of hr) (pv 2) pe_int) (pa_cons (pe_lst (pa_cons (pv 2) pa_nil)) pa_nil)) (by rfl))
  (pss_cons (ps_while PassesOwn.never (pt_cmpR (op_neE hr.units) (pv 4) (pe_lst pa_nil) (nomark _)) (pss_cons (ps_set (i := 5) sc_law_from.nd rfl (Or.inl rfl) (pe_lst pa_nil))
  (pss_cons (ps_for PassesOwn.never rfl (pi_list (pv 4)) (pg_name (i := 6) sc_law_from.nd rfl (Or.inl rfl)) (pss_one (ps_for PassesOwn.never rfl (pi_tup (pe_ix ix_t (pv 0) pe_int (fun _ _ => rfl))) (pg_name (i := 7) sc_law_from.nd rfl (Or.inl rfl)) (pss_cons (ps_set (i := 8) sc_law_from.nd rfl (Or.inl rfl) (pe_cal C_law_step hr (by first | decide | exact Nat.le_refl _) rfl (pa_cons (pv 1) (pa_cons (pv 6) (pa_cons (pv 7) pa_nil)))))
  (pss_one (ps_if (pt_cmp (pc_dnotin (hu_of hr) (pv 8) (pv 3))) (pss_cons (ps_dput (hu_of hr) (pv 3) (pv 8) (pe_op op_add (pe_dget (hu_of hr) (pv 3) (pv 6) (fun _ _ => rfl)) pe_int) rfl)
  (pss_one (ps_expr (pe_bm PySem.F.plainAttrs_list PySem.F.slot_list_append PySem.F.type_list_append mt_append (pv 5) (pa_cons (pv 8) pa_nil))))) pss_nil))))))
  (pss_one (ps_set (i := 4) sc_law_from.nd rfl (Or.inl rfl) (pv 5))))))
  (pss_one (ps_ret (pv 3))))), ?_⟩
    have k2' := gw.k2
    obtain ⟨zz, hv, hz⟩ := id hw
    obtain ⟨us, hu, hall⟩ := id hz
    obtain ⟨ta, rfl, hta⟩ := id hu
    obtain ⟨td, rfl, htd⟩ := id hd
    have hvw : ∀ j e, Wk (Ef as k) d j e → VD n k e := fun j e h => Wk.vdf (by omega) vd h
    refine fun lf hlf => ⟨_, rfl, upd_same, ik d, td, rfl, ?_, ?_⟩
    · rw [ik_kV]
      exact (Ex.new hlf) _ _ htd
    refine ⟨_, rfl, by show 1 ≤ sizeLine; decide, fun lr hlr => ⟨_, _, rfl, ?_⟩⟩
    have nfr : lf ≠ lr := fun z => by rw [z, upd_same] at hlr; cases hlr
    have hlr0 : H lr = none := by rw [upd_ne nfr.symm, upd_ne nfr.symm] at hlr; exact hlr
    have e00 : Ex H (upd (upd (upd H lf (.dT [])) lf (.dT [(ik d, V.int 0)])) lr (.lst [V.ref td])) := Ex.mut (Ex.mut (Ex.new hlf) hlf) hlr0
    refine ⟨fun m σ H' => ∃ (L : Nat) (F : List (List Nat × Nat)) (rows : List (List Nat)) (kvs : List (List L2.Key × V)) (rs : List V) (lr : Addr) (a b c e : Option V), σ = [some v, some (.int (k : Int)), some (.ref td), some (.ref lf), some (.ref lr), a, b, c, e] ∧ Ex H H' ∧ H' lf = some (.dT kvs) ∧ H' lr = some (.lst rs) ∧ KV RN kvs F ∧ All2 (IsI H') rs rows ∧ LI (Ef as k) d L F rows ∧ m = ms F rows,
      ⟨_, 0, [(d, 0)], [d], [(ik d, V.int 0)], [V.ref td], lr, none, none, none, none, rfl, e00, by rw [upd_ne nfr]; exact upd_same, upd_same, .cons ⟨rfl, rfl⟩ .nil, .cons (hd.ex e00) .nil, LI.start, rfl⟩, ?_⟩
    rintro m σ H0 ⟨L, F, rows, kvs, rs, lr, a, b, c, e, rfl, e0, h1, h2, kf, al, I, rfl⟩
    refine ⟨_, rfl, Nat.zero_le _, fun l0 hl0 => ?_⟩
    have e1 : Ex H0 (upd H0 l0 (.lst [])) := Ex.new hl0
    have al1 : All2 (IsI (upd H0 l0 (.lst []))) rs rows := Paired.mapP al fun _ _ h => h.ex e1
    refine ⟨lr, l0, _, rfl, rfl, e1 _ _ h2, upd_same, .inr ⟨rows, al1⟩, _, rfl, ?_⟩
    by_cases hR : rows = []
    · subst hR
      have hrs : rs = [] := by
        cases al
        rfl
      subst hrs
      refine iteF ⟨_, rfl, q lf kvs F _ (e0.trans e1) hlf (e1 _ _ h1) kf (I.all gw hvw)⟩
    · have hne : (!rs.isEmpty) = true := by
        cases al with
        | nil => exact absurd rfl hR
        | cons _ _ => rfl
      rw [hne]
      refine iteT ⟨_, fun σ' H' z => z, ?_⟩
      refine ⟨Nat.zero_le _, fun lm hlm => ?_⟩
      obtain ⟨H2, eH2⟩ : ∃ H2, H2 = upd (upd H0 l0 (.lst [])) lm (.lst []) := ⟨_, rfl⟩
      rw [← eH2]
      have e2 : Ex H0 H2 := by rw [eH2]; exact e1.trans (Ex.new hlm)
      have g1 : H2 lf = some (.dT kvs) := e2 _ _ h1
      have g2 : H2 lr = some (.lst rs) := e2 _ _ h2
      have g3 : H2 lm = some (.lst []) := by rw [eH2]; exact upd_same
      have nfm : lf ≠ lm := fun z => by rw [← z, e1 _ _ h1] at hlm; cases hlm
      have nrm : lr ≠ lm := fun z => by rw [← z, e1 _ _ h2] at hlm; cases hlm
      have hlm0 : H lm = none := by
        rcases e : H lm with _ | u
        · rfl
        · rw [(e0.trans e1) _ _ e] at hlm
          cases hlm
      have nfr2 : lf ≠ lr := fun z => by rw [z, h2] at h1; cases h1
      -- between the turns: the heap's part
      obtain ⟨G, hG⟩ : ∃ G : Hp → List (List Nat × Nat) → List (List Nat) → Prop, G = fun H' F' M => ∃ (kvs' : List (List L2.Key × V)) (mv : List V), Ex H H' ∧ Tm H2 H' ∧ H' lf = some (.dT kvs') ∧ H' lr = some (.lst rs) ∧ H' lm = some (.lst mv) ∧ KV RN kvs' F' ∧ All2 (IsI H') mv M ∧ BI (Ef as k) d L F' M ∧ F'.length = F.length + M.length := ⟨_, rfl⟩
      have G0 : G H2 F [] := by rw [hG]; exact ⟨kvs, [], e0.trans e2, Tm.refl _, g1, g2, g3, kf, .nil, I.opened hR, rfl⟩
      have al2 : All2 (IsI H2) rs rows := Paired.mapP al fun _ _ h => h.ex e2
      refine ⟨_, rfl, lr, rfl, ⟨_, SqL.of g2⟩, ?_⟩
      refine for_it (walk_list (K := K) (a := lr) (xs := rs)) (fun i σ H' => ∃ (F' : List (List Nat × Nat)) (M : List (List Nat)) (b c e : Option V), σ = [some v, some (.int (k : Int)), some (.ref td), some (.ref lf), some (.ref lr), some (.ref lm), b, c, e] ∧ G H' F' M ∧ (∀ p x, p ∈ rows.take i → Ef as k p x → x ∈ F'.map (·.1)))
        ⟨F, [], b, c, e, rfl, G0, fun p x hp => by simp at hp⟩ (fun i σ H' _ ⟨_, _, _, _, _, _, g, _⟩ => by rw [hG] at g; obtain ⟨_, _, _, _, _, z, _⟩ := g; exact SqL.of z) ?_ ?_
      · rintro i x σ _ H3 hi ⟨F', M, b, c, e, rfl, g, done⟩ ⟨rfl, hx⟩
        obtain ⟨here, hhere, hxh⟩ := all2_get al2 hx
        have hL : Dst (Ef as k) d here L := (I.mem here).mp (List.mem_of_getElem? hhere)
        have vh := hvw _ _ hL.1
        have ex3 : Ex H H3 := by rw [hG] at g; obtain ⟨_, _, z, _⟩ := g; exact z
        refine ⟨_, rfl, _, _, _, hv.ex ex3, rfl, atI_nat (j := 1) rfl, ta, rfl, ⟨_, SqT.of (ex3 _ _ hta)⟩, ?_⟩
        refine for_it (walk_tup (K := K) (a := ta) (xs := us)) (fun j σ H' => ∃ (F' : List (List Nat × Nat)) (M : List (List Nat)) (c e : Option V), σ = [some v, some (.int (k : Int)), some (.ref td), some (.ref lf), some (.ref lr), some (.ref lm), some x, c, e] ∧ G H' F' M ∧ (∀ p x, p ∈ rows.take i → Ef as k p x → x ∈ F'.map (·.1)) ∧ (∀ a, a ∈ as.take j → stp k here a ∈ F'.map (·.1)))
          ⟨F', M, c, e, rfl, g, done, fun a ha => by simp at ha⟩ (fun j σ H' _ ⟨_, _, _, _, _, g, _⟩ => by rw [hG] at g; obtain ⟨_, _, z, _⟩ := g; exact SqT.of (z _ _ hta)) ?_ ?_
        · rintro j xa σ _ H4 hj ⟨F1, M1, c, e, rfl, g', done', dn2⟩ ⟨rfl, hxa⟩
          obtain ⟨ar, har, hxar⟩ := all2_get hall hxa
          have ham := List.mem_of_getElem? har
          rw [hG] at g'
          obtain ⟨kvs1, mv, i0, i1, i2, i3, i4, i5, i6, J, fl⟩ := g'
          have take1 : ∀ a, a ∈ as.take (j + 1) → a ∈ as.take j ∨ a = ar := fun a ha => by
            rw [List.take_add_one, har] at ha
            rcases List.mem_append.mp ha with ha | ha
            · exact .inl ha
            · exact .inr (List.mem_singleton.mp ha)
          refine ⟨_, rfl, _, rfl, _, rfl, x, xa, n, k, as, here, ar, rfl, gw, hxh.tm i1, vh, IsT.ex hxar i0, ham, fun u H5 e5 hu5 => ?_⟩
          have i6' : All2 (IsI H5) mv M1 := Paired.mapP i6 fun _ _ h => h.ex e5
          refine ⟨_, rfl, _, rfl, lf, _, rfl, dget_i (e5 _ _ i2) hu5, _, rfl, ?_⟩
          by_cases c0 : stp k here ar ∈ F1.map (·.1)
          · obtain ⟨jj, hjj⟩ := mem_fst.mp c0
            obtain ⟨vv, hvv, _⟩ := i5.get J.nd hjj
            rw [hvv]
            refine iteF ⟨F1, M1, some xa, some u, rfl, by rw [hG]; exact ⟨kvs1, mv, i0.trans e5, i1.trans (Tm.of e5), e5 _ _ i2, e5 _ _ i3, e5 _ _ i4, i5, i6', J, fl⟩, done', fun a ha => ?_⟩
            rcases take1 a ha with ha | rfl
            · exact dn2 a ha
            · exact c0
          · rw [i5.none c0]
            have J' := J.add hL (⟨ar, ham, rfl⟩ : Ef as k here (stp k here ar)) c0
            obtain ⟨vv, hvv, rvv⟩ := i5.get J.nd (J.full here L (Nat.le_refl L) hL)
            cases rvv
            have hm5 : IsI H5 x here := (hxh.tm i1).ex e5
            have l4096 : F1.length ≤ 4096 := CK.LI.le gw J.nd (J.vd hvw)
            have hle : kvs1.length < sizeLine := by rw [i5.len]; exact sz4096 l4096
            refine iteT ⟨_, rfl, _, rfl, lf, .int (L : Int), rfl, by rw [← hvv]; exact dget_i (e5 _ _ i2) hm5, _, _, rfl, rfl, ?_⟩
            refine ⟨_, rfl, _, rfl, lf, _, rfl, dput_i (e5 _ _ i2) hu5 hle, ?_⟩
            obtain ⟨H6, eH6⟩ : ∃ H6, H6 = upd H5 lf (.dT (putK kvs1 (ik (stp k here ar)) (V.int ((L : Int) + 1)))) := ⟨_, rfl⟩
            rw [← eH6]
            have m6 : H6 lm = some (.lst mv) := by rw [eH6, upd_ne (Ne.symm nfm)]; exact e5 _ _ i4
            have ex6 : Ex H H6 := by rw [eH6]; exact Ex.mut (i0.trans e5) hlf
            have tm6 : Tm H5 H6 := by rw [eH6]; exact Tm.dT (e5 _ _ i2)
            have mvl : mv.length < sizeLine := by
              rw [Paired.length i6]
              have := J.len
              exact sz4096 (by omega)
            refine ⟨_, rfl, .inl ⟨rfl, _, SqL.of m6⟩, _, rfl, lm, _, _, rfl, rfl, m6, mvl, ?_⟩
            have tm7 : Tm H6 (upd H6 lm (.lst (mv ++ [u]))) := Tm.lst m6
            refine ⟨F1 ++ [(stp k here ar, L + 1)], M1 ++ [stp k here ar], some xa, some u, rfl, ?_, fun p z hp hz => ?_, fun a ha => ?_⟩
            · rw [hG]
              refine ⟨putK kvs1 (ik (stp k here ar)) (V.int ((L : Int) + 1)), mv ++ [u], Ex.mut ex6 hlm0, (i1.trans (Tm.of e5)).trans (tm6.trans tm7), ?_, ?_, upd_same, KV.putNew i5 c0 (by show V.int ((L : Int) + 1) = V.int ((L + 1 : Nat) : Int); rw [Int.natCast_add]; rfl), ?_, J', by rw [List.length_append, List.length_append, fl]; rfl⟩
              · rw [upd_ne nfm, eH6]; exact upd_same
              · rw [upd_ne nrm, eH6, upd_ne (Ne.symm nfr2)]; exact e5 _ _ i3
              · exact all2_snoc (Paired.mapP i6' fun _ _ h => h.tm (tm6.trans tm7)) (hu5.tm (tm6.trans tm7))
            · rw [List.map_append]
              exact List.mem_append_left _ (done' p z hp hz)
            · rw [List.map_append]
              rcases take1 a ha with ha | rfl
              · exact List.mem_append_left _ (dn2 a ha)
              · exact List.mem_append_right _ (List.mem_singleton.mpr rfl)
        · rintro σ H4 ⟨F1, M1, c, e, rfl, g', done', dn2⟩
          refine ⟨F1, M1, _, c, e, rfl, g', fun p z hp hz => ?_⟩
          rw [List.take_add_one, hhere] at hp
          rcases List.mem_append.mp hp with hp | hp
          · exact done' p z hp hz
          · have : p = here := List.mem_singleton.mp hp
            subst this
            obtain ⟨a, ha, rfl⟩ := hz
            refine dn2 a ?_
            rw [List.take_of_length_le (by rw [Paired.length hall]; exact Nat.le_refl _)]
            exact ha
      · rintro σ H3 ⟨F', M, b, c, e, rfl, g, done⟩
        rw [hG] at g
        obtain ⟨kvs1, mv, i0, i1, i2, i3, i4, i5, i6, J, fl⟩ := g
        rw [List.take_of_length_le (by rw [Paired.length al]; exact Nat.le_refl _)] at done
        have I' := J.close (fun p x hp hx => done p x ((I.mem p).mpr hp) hx)
        refine ⟨_, rfl, ms F' M, ?_, L + 1, F', M, kvs1, mv, lm, _, b, c, e, rfl, i0, i2, i4, i5, i6, I', rfl⟩
        have h2 := CK.LI.le gw J.nd (J.vd hvw)
        unfold ms
        rw [if_neg hR]
        by_cases c0 : M = []
        · rw [if_pos c0]
          omega
        · rw [if_neg c0]
          have := List.length_pos_iff.mpr c0
          omega
theorem ok_steps_to (F : Fun K "steps_to" "steps_to" s_steps_to f fd) (T : Bi mg) : FnOk P w K mg base CX0 1 f fd ["web", "hours", "dial"] spStepsTo := by
  refine F.ok sc_steps_to (fun vs H Q E h => ?_) (fun cdv A outer s H vs Q E hr h => ?_)
  · obtain ⟨_, _, _, _, _, _, rfl, _⟩ := h
    rfl
  · obtain ⟨v, y, n, k, as, d, rfl, hw, gw, hd, vd, q⟩ := h
    refine ⟨_, (pss_cons (ps_par (i := 3) (j := 4) (by rfl) sc_steps_to.nd rfl rfl (by decide) rfl rfl (pa_cons (pe_disp1 (hu_of hr) (pv 2) pe_int) (pa_cons (pe_lst (pa_cons (pv 2) pa_nil)) pa_nil)) (by rfl))
  (pss_cons (ps_while PassesOwn.never (pt_cmpR (op_neE hr.units) (pv 4) (pe_lst pa_nil) (nomark _)) (pss_cons (ps_set (i := 5) sc_steps_to.nd rfl (Or.inl rfl) (pe_lst pa_nil))
  (pss_cons (ps_for PassesOwn.never rfl (pi_list (pv 4)) (pg_name (i := 6) sc_steps_to.nd rfl (Or.inl rfl)) (pss_one (ps_for PassesOwn.never rfl (pi_tup (pe_ix ix_t (pv 0) pe_int (fun _ _ => rfl))) (pg_tup rfl (pgs_cons (pg_name (i := 7) sc_steps_to.nd rfl (Or.inl rfl)) (pgs_cons (pg_name (i := 8) sc_steps_to.nd rfl (Or.inl rfl)) pgs_nil))) (pss_cons (ps_set (i := 9) sc_steps_to.nd rfl (Or.inl rfl) (pe_op op_cat2 (pe_op op_cat2 (pe_slice sl_cut (pv 6) po_none (po_some (pv 8))) (pe_tup (pa_cons (pe_op op_mod (pe_op op_sub (pe_ix ix_t (pv 6) (pv 8) (fun _ _ => rfl)) (pe_ix ix_t (pv 6) (pv 7) (fun _ _ => rfl))) (pv 1)) pa_nil))) (pe_slice sl_cut (pv 6) (po_some (pe_op op_add (pv 8) pe_int)) po_none)))
  (pss_one (ps_if (pt_cmp (pc_dnotin (hu_of hr) (pv 9) (pv 3))) (pss_cons (ps_dput (hu_of hr) (pv 3) (pv 9) (pe_op op_add (pe_dget (hu_of hr) (pv 3) (pv 6) (fun _ _ => rfl)) pe_int) rfl)
  (pss_one (ps_expr (pe_bm PySem.F.plainAttrs_list PySem.F.slot_list_append PySem.F.type_list_append mt_append (pv 5) (pa_cons (pv 9) pa_nil))))) pss_nil))))))
  (pss_one (ps_set (i := 4) sc_steps_to.nd rfl (Or.inl rfl) (pv 5))))))
  (pss_one (ps_ret (pv 3))))), ?_⟩
    have k2' := gw.k2
    obtain ⟨zz, hv, hz⟩ := id hw
    obtain ⟨us, hu, hall⟩ := id hz
    obtain ⟨ta, rfl, hta⟩ := id hu
    obtain ⟨td, rfl, htd⟩ := id hd
    have hvw : ∀ j e, Wk (Eb' as k) d j e → VD n k e := fun j e h => Wk.vdb (by omega) vd h
    refine fun lf hlf => ⟨_, rfl, upd_same, ik d, td, rfl, ?_, ?_⟩
    · rw [ik_kV]
      exact (Ex.new hlf) _ _ htd
    refine ⟨_, rfl, by show 1 ≤ sizeLine; decide, fun lr hlr => ⟨_, _, rfl, ?_⟩⟩
    have nfr : lf ≠ lr := fun z => by rw [z, upd_same] at hlr; cases hlr
    have hlr0 : H lr = none := by rw [upd_ne nfr.symm, upd_ne nfr.symm] at hlr; exact hlr
    have e00 : Ex H (upd (upd (upd H lf (.dT [])) lf (.dT [(ik d, V.int 0)])) lr (.lst [V.ref td])) := Ex.mut (Ex.mut (Ex.new hlf) hlf) hlr0
    refine ⟨fun m σ H' => ∃ (L : Nat) (F : List (List Nat × Nat)) (rows : List (List Nat)) (kvs : List (List L2.Key × V)) (rs : List V) (lr : Addr) (a b c e e' : Option V), σ = [some v, some (.int (k : Int)), some (.ref td), some (.ref lf), some (.ref lr), a, b, c, e, e'] ∧ Ex H H' ∧ H' lf = some (.dT kvs) ∧ H' lr = some (.lst rs) ∧ KV RN kvs F ∧ All2 (IsI H') rs rows ∧ LI (Eb' as k) d L F rows ∧ m = ms F rows,
      ⟨_, 0, [(d, 0)], [d], [(ik d, V.int 0)], [V.ref td], lr, none, none, none, none, none, rfl, e00, by rw [upd_ne nfr]; exact upd_same, upd_same, .cons ⟨rfl, rfl⟩ .nil, .cons (hd.ex e00) .nil, LI.start, rfl⟩, ?_⟩
    rintro m σ H0 ⟨L, F, rows, kvs, rs, lr, a, b, c, e, e', rfl, e0, h1, h2, kf, al, I, rfl⟩
    refine ⟨_, rfl, Nat.zero_le _, fun l0 hl0 => ?_⟩
    have e1 : Ex H0 (upd H0 l0 (.lst [])) := Ex.new hl0
    have al1 : All2 (IsI (upd H0 l0 (.lst []))) rs rows := Paired.mapP al fun _ _ h => h.ex e1
    refine ⟨lr, l0, _, rfl, rfl, e1 _ _ h2, upd_same, .inr ⟨rows, al1⟩, _, rfl, ?_⟩
    by_cases hR : rows = []
    · subst hR
      have hrs : rs = [] := by
        cases al
        rfl
      subst hrs
      refine iteF ⟨_, rfl, q lf kvs F _ (e0.trans e1) hlf (e1 _ _ h1) kf (I.all gw hvw)⟩
    · have hne : (!rs.isEmpty) = true := by
        cases al with
        | nil => exact absurd rfl hR
        | cons _ _ => rfl
      rw [hne]
      refine iteT ⟨_, fun σ' H' z => z, ?_⟩
      refine ⟨Nat.zero_le _, fun lm hlm => ?_⟩
      obtain ⟨H2, eH2⟩ : ∃ H2, H2 = upd (upd H0 l0 (.lst [])) lm (.lst []) := ⟨_, rfl⟩
      rw [← eH2]
      have e2 : Ex H0 H2 := by rw [eH2]; exact e1.trans (Ex.new hlm)
      have g1 : H2 lf = some (.dT kvs) := e2 _ _ h1
      have g2 : H2 lr = some (.lst rs) := e2 _ _ h2
      have g3 : H2 lm = some (.lst []) := by rw [eH2]; exact upd_same
      have nfm : lf ≠ lm := fun z => by rw [← z, e1 _ _ h1] at hlm; cases hlm
      have nrm : lr ≠ lm := fun z => by rw [← z, e1 _ _ h2] at hlm; cases hlm
      have hlm0 : H lm = none := by
        rcases e : H lm with _ | u
        · rfl
        · rw [(e0.trans e1) _ _ e] at hlm
          cases hlm
      have nfr2 : lf ≠ lr := fun z => by rw [z, h2] at h1; cases h1
      -- between the turns: the heap's part
      obtain ⟨G, hG⟩ : ∃ G : Hp → List (List Nat × Nat) → List (List Nat) → Prop, G = fun H' F' M => ∃ (kvs' : List (List L2.Key × V)) (mv : List V), Ex H H' ∧ Tm H2 H' ∧ H' lf = some (.dT kvs') ∧ H' lr = some (.lst rs) ∧ H' lm = some (.lst mv) ∧ KV RN kvs' F' ∧ All2 (IsI H') mv M ∧ BI (Eb' as k) d L F' M ∧ F'.length = F.length + M.length := ⟨_, rfl⟩
      have G0 : G H2 F [] := by rw [hG]; exact ⟨kvs, [], e0.trans e2, Tm.refl _, g1, g2, g3, kf, .nil, I.opened hR, rfl⟩
      have al2 : All2 (IsI H2) rs rows := Paired.mapP al fun _ _ h => h.ex e2
      refine ⟨_, rfl, lr, rfl, ⟨_, SqL.of g2⟩, ?_⟩
      refine for_it (walk_list (K := K) (a := lr) (xs := rs)) (fun i σ H' => ∃ (F' : List (List Nat × Nat)) (M : List (List Nat)) (b c e e' : Option V), σ = [some v, some (.int (k : Int)), some (.ref td), some (.ref lf), some (.ref lr), some (.ref lm), b, c, e, e'] ∧ G H' F' M ∧ (∀ p x, p ∈ rows.take i → Eb' as k p x → x ∈ F'.map (·.1)))
        ⟨F, [], b, c, e, e', rfl, G0, fun p x hp => by simp at hp⟩ (fun i σ H' _ ⟨_, _, _, _, _, _, _, g, _⟩ => by rw [hG] at g; obtain ⟨_, _, _, _, _, z, _⟩ := g; exact SqL.of z) ?_ ?_
      · rintro i x σ _ H3 hi ⟨F', M, b, c, e, e', rfl, g, done⟩ ⟨rfl, hx⟩
        obtain ⟨here, hhere, hxh⟩ := all2_get al2 hx
        have hL : Dst (Eb' as k) d here L := (I.mem here).mp (List.mem_of_getElem? hhere)
        have vh := hvw _ _ hL.1
        have ex3 : Ex H H3 := by rw [hG] at g; obtain ⟨_, _, z, _⟩ := g; exact z
        refine ⟨_, rfl, _, _, _, hv.ex ex3, rfl, atI_nat (j := 1) rfl, ta, rfl, ⟨_, SqT.of (ex3 _ _ hta)⟩, ?_⟩
        refine for_it (walk_tup (K := K) (a := ta) (xs := us)) (fun j σ H' => ∃ (F' : List (List Nat × Nat)) (M : List (List Nat)) (c e e' : Option V), σ = [some v, some (.int (k : Int)), some (.ref td), some (.ref lf), some (.ref lr), some (.ref lm), some x, c, e, e'] ∧ G H' F' M ∧ (∀ p x, p ∈ rows.take i → Eb' as k p x → x ∈ F'.map (·.1)) ∧ (∀ a, a ∈ as.take j → bck k here a ∈ F'.map (·.1)))
          ⟨F', M, c, e, e', rfl, g, done, fun a ha => by simp at ha⟩ (fun j σ H' _ ⟨_, _, _, _, _, _, g, _⟩ => by rw [hG] at g; obtain ⟨_, _, z, _⟩ := g; exact SqT.of (z _ _ hta)) ?_ ?_
        · rintro j xa σ _ H4 hj ⟨F1, M1, c, e, e', rfl, g', done', dn2⟩ ⟨rfl, hxa⟩
          obtain ⟨ar, har, hxar⟩ := all2_get hall hxa
          have ham := List.mem_of_getElem? har
          rw [hG] at g'
          obtain ⟨kvs1, mv, i0, i1, i2, i3, i4, i5, i6, J, fl⟩ := g'
          have take1 : ∀ a, a ∈ as.take (j + 1) → a ∈ as.take j ∨ a = ar := fun a ha => by
            rw [List.take_add_one, har] at ha
            rcases List.mem_append.mp ha with ha | ha
            · exact .inl ha
            · exact .inr (List.mem_singleton.mp ha)
          obtain ⟨txa, rfl, htxa⟩ := IsT.ex hxar i0
          have l1 := gw.w.lt1 _ ham
          have l2 := gw.w.lt2 _ ham
          have n4 := gw.n4
          have len := vh.len
          have hh : IsI H4 x here := hxh.tm i1
          refine ⟨txa, _, rfl, SqT.of htxa, rfl, _, _, rfl, _, _, rfl, rfl, ?_⟩
          refine ⟨_, rfl, _, rfl, _, rfl, _, hh, fun v1 Ha ea ha => ?_⟩
          refine ⟨_, rfl, _, rfl, _, _, _, hh.ex ea, rfl, atI_d vh l2, _, rfl, _, rfl, _, _, _, hh.ex ea, rfl, atI_d vh l1, _, _, rfl, rfl, _, rfl, _, _, rfl, rfl, by omega, by show 1 ≤ sizeLine; decide, fun t ht => ?_⟩
          have c1 : (cutV (iv here) none (some (ar.2 : Int))).length = ar.2 := by rw [cut_to _ (by rw [iv_len]; omega), List.length_take, iv_len]; omega
          refine ⟨_, _, IsT.ex ha (Ex.new ht), IsT.mk upd_same, by rw [c1]; show ar.2 + 1 ≤ 100000; omega, fun v2 Hb eb hb => ?_⟩
          have ex2 := ea.trans ((Ex.new ht).trans eb)
          refine ⟨_, rfl, _, rfl, _, _, rfl, rfl, _, rfl, _, hh.ex ex2, fun v3 Hc ec hc => ?_⟩
          have c3 : (cutV (iv here) (some ((ar.2 : Int) + 1)) none).length ≤ n := by
            have e : ((ar.2 : Int) + 1) = ((ar.2 + 1 : Nat) : Int) := by omega
            rw [e, cut_from _ (by rw [iv_len]; omega), List.length_drop, iv_len]
            omega
          have b1 := vh.get l1
          have e4 : V.int ((((here.getD ar.2 0 : Nat) : Int) - ((here.getD ar.1 0 : Nat) : Int)) % (k : Int)) = V.int (((here.getD ar.2 0 + k - here.getD ar.1 0) % k : Nat) : Int) := by
            have e : ((here.getD ar.2 0 + k - here.getD ar.1 0 : Nat) : Int) = ((here.getD ar.2 0 : Nat) : Int) - ((here.getD ar.1 0 : Nat) : Int) + (k : Int) := by omega
            rw [Int.natCast_emod, e, Int.add_emod_right]
          refine ⟨_, _, IsT.ex hb ec, hc, ?_, fun u H5 e5' h4 => ?_⟩
          · rw [List.length_append, c1]
            show ar.2 + 1 + _ ≤ 100000
            have : (cutV (iv here) (some ((ar.2 : Int) + 1)) none).length ≤ n := c3
            omega
          have e5 : Ex H4 H5 := (ex2.trans ec).trans e5'
          have hu5 : IsI H5 u (bck k here ar) := by
            have h5 : IsT H5 u (cutV (iv here) none (some (ar.2 : Int)) ++ [V.int ((((here.getD ar.2 0 : Nat) : Int) - ((here.getD ar.1 0 : Nat) : Int)) % (k : Int))] ++ cutV (iv here) (some ((ar.2 : Int) + 1)) none) := h4
            rw [e4, cut_set _ (by omega)] at h5
            exact h5
          have i6' : All2 (IsI H5) mv M1 := Paired.mapP i6 fun _ _ h => h.ex e5
          refine ⟨_, rfl, _, rfl, lf, _, rfl, dget_i (e5 _ _ i2) hu5, _, rfl, ?_⟩
          by_cases c0 : bck k here ar ∈ F1.map (·.1)
          · obtain ⟨jj, hjj⟩ := mem_fst.mp c0
            obtain ⟨vv, hvv, _⟩ := i5.get J.nd hjj
            rw [hvv]
            refine iteF ⟨F1, M1, some (V.int (ar.1 : Int)), some (V.int (ar.2 : Int)), some u, rfl, by rw [hG]; exact ⟨kvs1, mv, i0.trans e5, i1.trans (Tm.of e5), e5 _ _ i2, e5 _ _ i3, e5 _ _ i4, i5, i6', J, fl⟩, done', fun a ha => ?_⟩
            rcases take1 a ha with ha | rfl
            · exact dn2 a ha
            · exact c0
          · rw [i5.none c0]
            have J' := J.add hL (⟨ar, ham, rfl⟩ : Eb' as k here (bck k here ar)) c0
            obtain ⟨vv, hvv, rvv⟩ := i5.get J.nd (J.full here L (Nat.le_refl L) hL)
            cases rvv
            have hm5 : IsI H5 x here := (hxh.tm i1).ex e5
            have l4096 : F1.length ≤ 4096 := CK.LI.le gw J.nd (J.vd hvw)
            have hle : kvs1.length < sizeLine := by rw [i5.len]; exact sz4096 l4096
            refine iteT ⟨_, rfl, _, rfl, lf, .int (L : Int), rfl, by rw [← hvv]; exact dget_i (e5 _ _ i2) hm5, _, _, rfl, rfl, ?_⟩
            refine ⟨_, rfl, _, rfl, lf, _, rfl, dput_i (e5 _ _ i2) hu5 hle, ?_⟩
            obtain ⟨H6, eH6⟩ : ∃ H6, H6 = upd H5 lf (.dT (putK kvs1 (ik (bck k here ar)) (V.int ((L : Int) + 1)))) := ⟨_, rfl⟩
            rw [← eH6]
            have m6 : H6 lm = some (.lst mv) := by rw [eH6, upd_ne (Ne.symm nfm)]; exact e5 _ _ i4
            have ex6 : Ex H H6 := by rw [eH6]; exact Ex.mut (i0.trans e5) hlf
            have tm6 : Tm H5 H6 := by rw [eH6]; exact Tm.dT (e5 _ _ i2)
            have mvl : mv.length < sizeLine := by
              rw [Paired.length i6]
              have := J.len
              exact sz4096 (by omega)
            refine ⟨_, rfl, .inl ⟨rfl, _, SqL.of m6⟩, _, rfl, lm, _, _, rfl, rfl, m6, mvl, ?_⟩
            have tm7 : Tm H6 (upd H6 lm (.lst (mv ++ [u]))) := Tm.lst m6
            refine ⟨F1 ++ [(bck k here ar, L + 1)], M1 ++ [bck k here ar], some (V.int (ar.1 : Int)), some (V.int (ar.2 : Int)), some u, rfl, ?_, fun p z hp hz => ?_, fun a ha => ?_⟩
            · rw [hG]
              refine ⟨putK kvs1 (ik (bck k here ar)) (V.int ((L : Int) + 1)), mv ++ [u], Ex.mut ex6 hlm0, (i1.trans (Tm.of e5)).trans (tm6.trans tm7), ?_, ?_, upd_same, KV.putNew i5 c0 (by show V.int ((L : Int) + 1) = V.int ((L + 1 : Nat) : Int); rw [Int.natCast_add]; rfl), ?_, J', by rw [List.length_append, List.length_append, fl]; rfl⟩
              · rw [upd_ne nfm, eH6]; exact upd_same
              · rw [upd_ne nrm, eH6, upd_ne (Ne.symm nfr2)]; exact e5 _ _ i3
              · exact all2_snoc (Paired.mapP i6' fun _ _ h => h.tm (tm6.trans tm7)) (hu5.tm (tm6.trans tm7))
            · rw [List.map_append]
              exact List.mem_append_left _ (done' p z hp hz)
            · rw [List.map_append]
              rcases take1 a ha with ha | rfl
              · exact List.mem_append_left _ (dn2 a ha)
              · exact List.mem_append_right _ (List.mem_singleton.mpr rfl)
        · rintro σ H4 ⟨F1, M1, c, e, e', rfl, g', done', dn2⟩
          refine ⟨F1, M1, _, c, e, e', rfl, g', fun p z hp hz => ?_⟩
          rw [List.take_add_one, hhere] at hp
          rcases List.mem_append.mp hp with hp | hp
          · exact done' p z hp hz
          · have : p = here := List.mem_singleton.mp hp
            subst this
            obtain ⟨a, ha, rfl⟩ := hz
            refine dn2 a ?_
            rw [List.take_of_length_le (by rw [Paired.length hall]; exact Nat.le_refl _)]
            exact ha
      · rintro σ H3 ⟨F', M, b, c, e, e', rfl, g, done⟩
        rw [hG] at g
        obtain ⟨kvs1, mv, i0, i1, i2, i3, i4, i5, i6, J, fl⟩ := g
        rw [List.take_of_length_le (by rw [Paired.length al]; exact Nat.le_refl _)] at done
        have I' := J.close (fun p x hp hx => done p x ((I.mem p).mpr hp) hx)
        refine ⟨_, rfl, ms F' M, ?_, L + 1, F', M, kvs1, mv, lm, _, b, c, e, e', rfl, i0, i2, i4, i5, i6, I', rfl⟩
        have h2 := CK.LI.le gw J.nd (J.vd hvw)
        unfold ms
        rw [if_neg hR]
        by_cases c0 : M = []
        · rw [if_pos c0]
          omega
        · rw [if_neg c0]
          have := List.length_pos_iff.mpr c0
          omega
theorem ok_steps_from (F : Fun K "steps_from" "steps_from" s_steps_from f fd) (T : Bi mg) (C_near_in : Cal P w K mg base 2 "near_in" ["web", "hours", "dial"] spNearIn) : FnOk P w K mg base CX0 3 f fd ["web", "hours", "dial"] spFrom := by
  refine F.ok sc_steps_from (fun vs H Q E h => ?_) (fun cdv A outer s H vs Q E hr h => ?_)
  · obtain ⟨_, _, _, _, _, _, rfl, _⟩ := h
    rfl
  · obtain ⟨v, y, n, k, as, d, rfl, hw, gw, hd, vd, q⟩ := h
    refine ⟨_, (pss_cons (ps_par (i := 3) (j := 4) (by rfl) sc_steps_from.nd rfl rfl (by decide) rfl rfl (pa_cons (pe_disp1 (hu_of hr) (pv 2) pe_int) (pa_cons (pe_lst (pa_cons (pv 2) pa_nil)) pa_nil)) (by rfl))
  (pss_cons (ps_while PassesOwn.never (pt_cmpR (op_neE hr.units) (pv 4) (pe_lst pa_nil) (nomark _)) (pss_cons (ps_set (i := 5) sc_steps_from.nd rfl (Or.inl rfl) (pe_lst pa_nil))
  (pss_cons (ps_for PassesOwn.never rfl (pi_list (pv 4)) (pg_name (i := 6) sc_steps_from.nd rfl (Or.inl rfl)) (pss_one (ps_for PassesOwn.never rfl (pi_list (pe_cal C_near_in hr (by first | decide | exact Nat.le_refl _) rfl (pa_cons (pv 0) (pa_cons (pv 1) (pa_cons (pv 6) pa_nil))))) (pg_name (i := 7) sc_steps_from.nd rfl (Or.inl rfl)) (pss_one (ps_if (pt_cmp (pc_dnotin (hu_of hr) (pv 7) (pv 3))) (pss_cons (ps_dput (hu_of hr) (pv 3) (pv 7) (pe_op op_add (pe_dget (hu_of hr) (pv 3) (pv 6) (fun _ _ => rfl)) pe_int) rfl)
  (pss_one (ps_expr (pe_bm PySem.F.plainAttrs_list PySem.F.slot_list_append PySem.F.type_list_append mt_append (pv 5) (pa_cons (pv 7) pa_nil))))) pss_nil)))))
  (pss_one (ps_set (i := 4) sc_steps_from.nd rfl (Or.inl rfl) (pv 5))))))
  (pss_one (ps_ret (pv 3))))), ?_⟩
    have k2' := gw.k2
    obtain ⟨zz, hv, hz⟩ := id hw
    obtain ⟨us, hu, hall⟩ := id hz
    obtain ⟨ta, rfl, hta⟩ := id hu
    obtain ⟨td, rfl, htd⟩ := id hd
    have hvw : ∀ j e, Wk (Ef as k) d j e → VD n k e := fun j e h => Wk.vdf (by omega) vd h
    refine fun lf hlf => ⟨_, rfl, upd_same, ik d, td, rfl, ?_, ?_⟩
    · rw [ik_kV]
      exact (Ex.new hlf) _ _ htd
    refine ⟨_, rfl, by show 1 ≤ sizeLine; decide, fun lr hlr => ⟨_, _, rfl, ?_⟩⟩
    have nfr : lf ≠ lr := fun z => by rw [z, upd_same] at hlr; cases hlr
    have hlr0 : H lr = none := by rw [upd_ne nfr.symm, upd_ne nfr.symm] at hlr; exact hlr
    have e00 : Ex H (upd (upd (upd H lf (.dT [])) lf (.dT [(ik d, V.int 0)])) lr (.lst [V.ref td])) := Ex.mut (Ex.mut (Ex.new hlf) hlf) hlr0
    refine ⟨fun m σ H' => ∃ (L : Nat) (F : List (List Nat × Nat)) (rows : List (List Nat)) (kvs : List (List L2.Key × V)) (rs : List V) (lr : Addr) (a b c : Option V), σ = [some v, some (.int (k : Int)), some (.ref td), some (.ref lf), some (.ref lr), a, b, c] ∧ Ex H H' ∧ H' lf = some (.dT kvs) ∧ H' lr = some (.lst rs) ∧ KV RN kvs F ∧ All2 (IsI H') rs rows ∧ LI (Ef as k) d L F rows ∧ m = ms F rows,
      ⟨_, 0, [(d, 0)], [d], [(ik d, V.int 0)], [V.ref td], lr, none, none, none, rfl, e00, by rw [upd_ne nfr]; exact upd_same, upd_same, .cons ⟨rfl, rfl⟩ .nil, .cons (hd.ex e00) .nil, LI.start, rfl⟩, ?_⟩
    rintro m σ H0 ⟨L, F, rows, kvs, rs, lr, a, b, c, rfl, e0, h1, h2, kf, al, I, rfl⟩
    refine ⟨_, rfl, Nat.zero_le _, fun l0 hl0 => ?_⟩
    have e1 : Ex H0 (upd H0 l0 (.lst [])) := Ex.new hl0
    have al1 : All2 (IsI (upd H0 l0 (.lst []))) rs rows := Paired.mapP al fun _ _ h => h.ex e1
    refine ⟨lr, l0, _, rfl, rfl, e1 _ _ h2, upd_same, .inr ⟨rows, al1⟩, _, rfl, ?_⟩
    by_cases hR : rows = []
    · subst hR
      have hrs : rs = [] := by
        cases al
        rfl
      subst hrs
      refine iteF ⟨_, rfl, q lf kvs F _ (e0.trans e1) hlf (e1 _ _ h1) kf (I.all gw hvw)⟩
    · have hne : (!rs.isEmpty) = true := by
        cases al with
        | nil => exact absurd rfl hR
        | cons _ _ => rfl
      rw [hne]
      refine iteT ⟨_, fun σ' H' z => z, ?_⟩
      refine ⟨Nat.zero_le _, fun lm hlm => ?_⟩
      obtain ⟨H2, eH2⟩ : ∃ H2, H2 = upd (upd H0 l0 (.lst [])) lm (.lst []) := ⟨_, rfl⟩
      rw [← eH2]
      have e2 : Ex H0 H2 := by rw [eH2]; exact e1.trans (Ex.new hlm)
      have g1 : H2 lf = some (.dT kvs) := e2 _ _ h1
      have g2 : H2 lr = some (.lst rs) := e2 _ _ h2
      have g3 : H2 lm = some (.lst []) := by rw [eH2]; exact upd_same
      have nfm : lf ≠ lm := fun z => by rw [← z, e1 _ _ h1] at hlm; cases hlm
      have nrm : lr ≠ lm := fun z => by rw [← z, e1 _ _ h2] at hlm; cases hlm
      have hlm0 : H lm = none := by
        rcases e : H lm with _ | u
        · rfl
        · rw [(e0.trans e1) _ _ e] at hlm
          cases hlm
      have nfr2 : lf ≠ lr := fun z => by rw [z, h2] at h1; cases h1
      -- between the turns: the heap's part
      obtain ⟨G, hG⟩ : ∃ G : Hp → List (List Nat × Nat) → List (List Nat) → Prop, G = fun H' F' M => ∃ (kvs' : List (List L2.Key × V)) (mv : List V), Ex H H' ∧ Tm H2 H' ∧ H' lf = some (.dT kvs') ∧ H' lr = some (.lst rs) ∧ H' lm = some (.lst mv) ∧ KV RN kvs' F' ∧ All2 (IsI H') mv M ∧ BI (Ef as k) d L F' M ∧ F'.length = F.length + M.length := ⟨_, rfl⟩
      have G0 : G H2 F [] := by rw [hG]; exact ⟨kvs, [], e0.trans e2, Tm.refl _, g1, g2, g3, kf, .nil, I.opened hR, rfl⟩
      have al2 : All2 (IsI H2) rs rows := Paired.mapP al fun _ _ h => h.ex e2
      refine ⟨_, rfl, lr, rfl, ⟨_, SqL.of g2⟩, ?_⟩
      refine for_it (walk_list (K := K) (a := lr) (xs := rs)) (fun i σ H' => ∃ (F' : List (List Nat × Nat)) (M : List (List Nat)) (b c : Option V), σ = [some v, some (.int (k : Int)), some (.ref td), some (.ref lf), some (.ref lr), some (.ref lm), b, c] ∧ G H' F' M ∧ (∀ p x, p ∈ rows.take i → Ef as k p x → x ∈ F'.map (·.1)))
        ⟨F, [], b, c, rfl, G0, fun p x hp => by simp at hp⟩ (fun i σ H' _ ⟨_, _, _, _, _, g, _⟩ => by rw [hG] at g; obtain ⟨_, _, _, _, _, z, _⟩ := g; exact SqL.of z) ?_ ?_
      · rintro i x σ _ H3 hi ⟨F', M, b, c, rfl, g, done⟩ ⟨rfl, hx⟩
        obtain ⟨here, hhere, hxh⟩ := all2_get al2 hx
        have hL : Dst (Ef as k) d here L := (I.mem here).mp (List.mem_of_getElem? hhere)
        have vh := hvw _ _ hL.1
        have ex3 : Ex H H3 := by rw [hG] at g; obtain ⟨_, _, z, _⟩ := g; exact z
        refine ⟨_, rfl, _, rfl, _, rfl, v, x, n, k, as, here, rfl, hw.ex ex3, gw, hxh.tm (by rw [hG] at g; obtain ⟨_, _, _, z, _⟩ := g; exact z), vh, fun ln ns ds Hn en hln hn aln mem => ?_⟩
        have gn : G Hn F' M := by
          rw [hG] at g ⊢
          obtain ⟨kvs1, mv, i0, i1, i2, i3, i4, i5, i6, J, fl⟩ := g
          exact ⟨kvs1, mv, i0.trans en, i1.trans (Tm.of en), en _ _ i2, en _ _ i3, en _ _ i4, i5, Paired.mapP i6 fun _ _ h => h.ex en, J, fl⟩
        have nlf : ln ≠ lf ∧ ln ≠ lm ∧ ln ≠ lr := by
          rw [hG] at g
          obtain ⟨kvs1, mv, i0, i1, i2, i3, i4, i5, i6, J, fl⟩ := g
          refine ⟨fun z => ?_, fun z => ?_, fun z => ?_⟩
          · rw [z, i2] at hln; cases hln
          · rw [z, i4] at hln; cases hln
          · rw [z, i3] at hln; cases hln
        have xn : IsI Hn x here := (hxh.tm (by rw [hG] at g; obtain ⟨_, _, _, z, _⟩ := g; exact z)).ex en
        refine ⟨ln, rfl, ⟨_, SqL.of hn⟩, ?_⟩
        refine for_it (walk_list (K := K) (a := ln) (xs := ns)) (fun j σ H' => ∃ (F' : List (List Nat × Nat)) (M : List (List Nat)) (c : Option V), σ = [some v, some (.int (k : Int)), some (.ref td), some (.ref lf), some (.ref lr), some (.ref lm), some x, c] ∧ G H' F' M ∧ (∀ p x, p ∈ rows.take i → Ef as k p x → x ∈ F'.map (·.1)) ∧ (∀ z, z ∈ ds.take j → z ∈ F'.map (·.1)) ∧ H' ln = some (.lst ns) ∧ Tm Hn H')
          ⟨F', M, c, rfl, gn, done, fun a ha => by simp at ha, hn, Tm.refl _⟩ (fun j σ H' _ ⟨_, _, _, _, _, _, _, z, _⟩ => SqL.of z) ?_ ?_
        · rintro j u σ _ H4 hj ⟨F1, M1, c, rfl, g', done', dn2, hn4, tn4⟩ ⟨rfl, hxa⟩
          obtain ⟨th, hth, hxth⟩ := all2_get aln hxa
          have thm := List.mem_of_getElem? hth
          obtain ⟨⟨ar, ham, eth⟩, thne⟩ := (mem th).mp thm
          have take1 : ∀ a, a ∈ ds.take (j + 1) → a ∈ ds.take j ∨ a = th := fun a ha => by
            rw [List.take_add_one, hth] at ha
            rcases List.mem_append.mp ha with ha | ha
            · exact .inl ha
            · exact .inr (List.mem_singleton.mp ha)
          rw [hG] at g'
          obtain ⟨kvs1, mv, i0, i1, i2, i3, i4, i5, i6, J, fl⟩ := g'
          have e5 : Ex H4 H4 := Same.refl H4
          have hu5 : IsI H4 u th := hxth.tm tn4
          have i6' : All2 (IsI H4) mv M1 := Paired.mapP i6 fun _ _ h => h.ex e5
          refine ⟨_, rfl, _, rfl, lf, _, rfl, dget_i (e5 _ _ i2) hu5, _, rfl, ?_⟩
          by_cases c0 : th ∈ F1.map (·.1)
          · obtain ⟨jj, hjj⟩ := mem_fst.mp c0
            obtain ⟨vv, hvv, _⟩ := i5.get J.nd hjj
            rw [hvv]
            refine iteF ⟨F1, M1, some u, rfl, by rw [hG]; exact ⟨kvs1, mv, i0.trans e5, i1.trans (Tm.of e5), e5 _ _ i2, e5 _ _ i3, e5 _ _ i4, i5, i6', J, fl⟩, done', fun a ha => ?_, hn4, tn4⟩
            rcases take1 a ha with ha | rfl
            · exact dn2 a ha
            · exact c0
          · rw [i5.none c0]
            have J' := J.add hL (⟨ar, ham, eth⟩ : Ef as k here th) c0
            obtain ⟨vv, hvv, rvv⟩ := i5.get J.nd (J.full here L (Nat.le_refl L) hL)
            cases rvv
            have hm5 : IsI H4 x here := (hxh.tm i1).ex e5
            have l4096 : F1.length ≤ 4096 := CK.LI.le gw J.nd (J.vd hvw)
            have hle : kvs1.length < sizeLine := by rw [i5.len]; exact sz4096 l4096
            refine iteT ⟨_, rfl, _, rfl, lf, .int (L : Int), rfl, by rw [← hvv]; exact dget_i (e5 _ _ i2) hm5, _, _, rfl, rfl, ?_⟩
            refine ⟨_, rfl, _, rfl, lf, _, rfl, dput_i (e5 _ _ i2) hu5 hle, ?_⟩
            obtain ⟨H6, eH6⟩ : ∃ H6, H6 = upd H4 lf (.dT (putK kvs1 (ik (th)) (V.int ((L : Int) + 1)))) := ⟨_, rfl⟩
            rw [← eH6]
            have m6 : H6 lm = some (.lst mv) := by rw [eH6, upd_ne (Ne.symm nfm)]; exact e5 _ _ i4
            have ex6 : Ex H H6 := by rw [eH6]; exact Ex.mut (i0.trans e5) hlf
            have tm6 : Tm H4 H6 := by rw [eH6]; exact Tm.dT (e5 _ _ i2)
            have mvl : mv.length < sizeLine := by
              rw [Paired.length i6]
              have := J.len
              exact sz4096 (by omega)
            refine ⟨_, rfl, .inl ⟨rfl, _, SqL.of m6⟩, _, rfl, lm, _, _, rfl, rfl, m6, mvl, ?_⟩
            have tm7 : Tm H6 (upd H6 lm (.lst (mv ++ [u]))) := Tm.lst m6
            refine ⟨F1 ++ [(th, L + 1)], M1 ++ [th], some u, rfl, ?_, fun p z hp hz => ?_, fun a ha => ?_, ?_, ?_⟩
            · rw [hG]
              refine ⟨putK kvs1 (ik (th)) (V.int ((L : Int) + 1)), mv ++ [u], Ex.mut ex6 hlm0, (i1.trans (Tm.of e5)).trans (tm6.trans tm7), ?_, ?_, upd_same, KV.putNew i5 c0 (by show V.int ((L : Int) + 1) = V.int ((L + 1 : Nat) : Int); rw [Int.natCast_add]; rfl), ?_, J', by rw [List.length_append, List.length_append, fl]; rfl⟩
              · rw [upd_ne nfm, eH6]; exact upd_same
              · rw [upd_ne nrm, eH6, upd_ne (Ne.symm nfr2)]; exact e5 _ _ i3
              · exact all2_snoc (Paired.mapP i6' fun _ _ h => h.tm (tm6.trans tm7)) (hu5.tm (tm6.trans tm7))
            · rw [List.map_append]
              exact List.mem_append_left _ (done' p z hp hz)
            · rw [List.map_append]
              rcases take1 a ha with ha | rfl
              · exact List.mem_append_left _ (dn2 a ha)
              · exact List.mem_append_right _ (List.mem_singleton.mpr rfl)
            · rw [upd_ne nlf.2.1, eH6, upd_ne nlf.1]
              exact hn4
            · exact tn4.trans (tm6.trans tm7)
        · rintro σ H4 ⟨F1, M1, c, rfl, g', done', dn2, hn4, tn4⟩
          refine ⟨F1, M1, _, c, rfl, g', fun p z hp hz => ?_⟩
          rw [List.take_add_one, hhere] at hp
          rcases List.mem_append.mp hp with hp | hp
          · exact done' p z hp hz
          · have : p = here := List.mem_singleton.mp hp
            subst this
            by_cases c1 : z = p
            · subst c1
              rw [hG] at g'
              obtain ⟨_, _, _, _, _, _, _, _, _, J, _⟩ := g'
              exact mem_fst.mpr ⟨L, J.full _ L (Nat.le_refl L) hL⟩
            · refine dn2 z ?_
              rw [List.take_of_length_le (by rw [Paired.length aln]; exact Nat.le_refl _)]
              exact (mem z).mpr ⟨hz, c1⟩
      · rintro σ H3 ⟨F', M, b, c, rfl, g, done⟩
        rw [hG] at g
        obtain ⟨kvs1, mv, i0, i1, i2, i3, i4, i5, i6, J, fl⟩ := g
        rw [List.take_of_length_le (by rw [Paired.length al]; exact Nat.le_refl _)] at done
        have I' := J.close (fun p x hp hx => done p x ((I.mem p).mpr hp) hx)
        refine ⟨_, rfl, ms F' M, ?_, L + 1, F', M, kvs1, mv, lm, _, b, c, rfl, i0, i2, i4, i5, i6, I', rfl⟩
        have h2 := CK.LI.le gw J.nd (J.vd hvw)
        unfold ms
        rw [if_neg hR]
        by_cases c0 : M = []
        · rw [if_pos c0]
          omega
        · rw [if_neg c0]
          have := List.length_pos_iff.mpr c0
          omega
end
end CK

/-! need_two, way_between, fewest_met -/
namespace CK
open PySem PySem.Spec PyProof.Rows L2 CA
theorem eqv_idats : ∀ L M : List (List Nat), PyData.eqvAll (L.map idat) (M.map idat) = decide (L = M)
  | [], [] => by simp [PyData.eqvAll]
  | [], _ :: _ => by simp [PyData.eqvAll]
  | _ :: _, [] => by simp [PyData.eqvAll]
  | d :: L, e :: M => by
    show PyData.eqvAll (idat d :: L.map idat) (idat e :: M.map idat) = _
    rw [PyData.eqvAll, eqv_idats L M, eqv_idat, Bool.eq_iff_iff]
    simp
theorem mdat_inj {L M : List (Nat × Nat)} (h : L.map mdat = M.map mdat) : L = M := by
  refine List.map_inj_right (fun x y q => ?_) |>.mp h
  obtain ⟨a, b⟩ := x
  obtain ⟨c, d⟩ := y
  unfold mdat at q
  simp at q
  rw [q.1, q.2]
theorem wlt_pre : ∀ (w : List Arw) {u v : List Arw}, wlt u v = true → wlt (w ++ u) (w ++ v) = true
  | [], _, _, h => h
  | a :: w, u, v, h => by
    show (if a = a then wlt (w ++ u) (w ++ v) else alt a a) = true
    rw [if_pos rfl]
    exact wlt_pre w h
/-- what is wished and not shown -/
def bad (ws : List (Option Nat)) (d : List Nat) (i : Nat) : Bool := match ws[i]? with
  | some (some x) => !decide (x = d.getD i 0)
  | _ => false
def fitb (ws : List (Option Nat)) (d : List Nat) : Bool := ((List.range ws.length).filter (bad ws d)).isEmpty
theorem fitb_iff {ws : List (Option Nat)} {d : List Nat} : fitb ws d = true ↔ Fits ws d := by
  unfold fitb Fits
  rw [List.isEmpty_iff, List.filter_eq_nil_iff]
  constructor
  · intro h i x hx
    have hi : i < ws.length := (List.getElem?_eq_some_iff.mp hx).1
    have := h i (List.mem_range.mpr hi)
    unfold bad at this
    rw [hx] at this
    simp at this
    exact this.symm
  · intro h i hi
    unfold bad
    split
    · next x hx => rw [h i x hx]; simp
    · decide
section
variable {P : Program} {w : World} {K : PySem.W.Frag} {mg : Str → Option Value} {base : Heap} {f : Addr} {fd : FuncData}
theorem ok_need_two (F : Fun K "need_two" "need_two" s_need_two f fd) (T : Bi mg) (C_need_all : Cal P w K mg base 4 "need_all" ["web", "hours", "dial"] spNeedAll) (C_need_dial : Cal P w K mg base 2 "need_dial" ["web", "hours", "dial"] spNeedDial) (C_need_few : Cal P w K mg base 6 "need_few" ["web", "hours", "dial"] spNeedFew) : FnOk P w K mg base CX0 7 f fd ["web", "hours", "one", "other"] spNeedTwo := by
  refine F.ok sc_need_two (fun vs H Q E h => ?_) (fun cdv A outer s H vs Q E hr h => ?_)
  · obtain ⟨_, _, _, _, _, _, _, _, rfl, _⟩ := h
    rfl
  · obtain ⟨v, y, z, n, k, as, d, e, rfl, hw, gw, hd, vd, he, ve, q⟩ := h
    refine ⟨_, (pss_cons (ps_expr (pe_cal C_need_all hr (by first | decide | exact Nat.le_refl _) rfl (pa_cons (pv 0) (pa_cons (pv 1) (pa_cons (pv 2) pa_nil)))))
  (pss_cons (ps_expr (pe_cal C_need_dial hr (by first | decide | exact Nat.le_refl _) rfl (pa_cons (pv 0) (pa_cons (pv 1) (pa_cons (pv 3) pa_nil)))))
  (pss_one (ps_expr (pe_cal C_need_few hr (by first | decide | exact Nat.le_refl _) rfl (pa_cons (pv 0) (pa_cons (pv 1) (pa_cons (pv 2) pa_nil)))))))), ?_⟩
    refine ⟨_, rfl, _, rfl, _, rfl, v, y, n, k, as, d, rfl, hw, gw, hd, vd, fun H1 e1 => ?_⟩
    refine ⟨_, rfl, _, rfl, _, rfl, v, z, n, k, as, e, rfl, hw.ex e1, he.ex e1, ve, fun H2 e2 => ?_⟩
    exact ⟨_, rfl, _, rfl, _, rfl, v, y, n, k, as, d, rfl, hw.ex (e1.trans e2), gw, hd.ex (e1.trans e2), vd, fun H3 e3 => q H3 ((e1.trans e2).trans e3)⟩
theorem reach_b {n k : Nat} {as : List Arw} {x e : List Nat} (W : VW n as) (k0 : 0 < k) (ve : VD n k e) (vx : VD n k x) (h : Rc as k x e) : ∃ j, Dst (Eb' as k) e x j := by
  obtain ⟨w, h1, h2⟩ := h
  obtain ⟨j, _, hj⟩ := ((wkb_word W k0 ve vx).mpr ⟨w, h1, rfl, h2⟩).dst
  exact ⟨j, hj⟩
theorem b_reach {n k : Nat} {as : List Arw} {x e : List Nat} {j : Nat} (W : VW n as) (k0 : 0 < k) (ve : VD n k e) (vx : VD n k x) (h : Dst (Eb' as k) e x j) : Rc as k x e := by
  obtain ⟨w, h1, _, h2⟩ := (wkb_word W k0 ve vx).mp h.1
  exact ⟨w, h1, h2⟩
theorem filter_head {as : List Arw} {p : Arw → Bool} (asc : Asc as) {a : Arw} {r : List Arw} (h : as.filter p = a :: r) : p a = true ∧ a ∈ as ∧ ∀ b ∈ as, p b = true → b = a ∨ alt a b = true := by
  have m : a ∈ as.filter p := by rw [h]; exact List.mem_cons_self
  have pw : (a :: r).Pairwise fun a b => alt a b = true := by rw [← h]; exact List.Pairwise.filter p asc
  refine ⟨(List.mem_filter.mp m).2, (List.mem_filter.mp m).1, fun b hb pb => ?_⟩
  have : b ∈ as.filter p := List.mem_filter.mpr ⟨hb, pb⟩
  rw [h] at this
  rcases List.mem_cons.mp this with q | q
  · exact .inl q
  · exact .inr ((List.pairwise_cons.mp pw).1 b q)
/-- the word so far, and all words of that length -/
def Grd (as : List Arw) (k : Nat) (d e : List Nat) (j0 : Nat) (w : List Arw) : Prop := ∀ v, Ld as k d e v → v.length = j0 → (∃ v2, v = w ++ v2) ∨ ∀ x, wlt (w ++ x) v = true
theorem ok_way_between (F : Fun K "way_between" "way_between" s_way_between f fd) (T : Bi mg) (C_need_two : Cal P w K mg base 7 "need_two" ["web", "hours", "one", "other"] spNeedTwo) (C_marks_in : Cal P w K mg base 5 "marks_in" ["web", "hours", "dial"] spMarksIn) (C_steps_to : Cal P w K mg base 1 "steps_to" ["web", "hours", "dial"] spStepsTo) (C_step : Cal P w K mg base 1 "step" ["hours", "dial", "arrow"] spStep) : FnOk P w K mg base CX0 8 f fd ["web", "hours", "one", "other"] spWayBetween := by
  refine F.ok sc_way_between (fun vs H Q E h => ?_) (fun cdv A outer s H vs Q E hr h => ?_)
  · obtain ⟨_, _, _, _, _, _, _, _, rfl, _⟩ := h
    rfl
  · obtain ⟨v, y, z, n, k, as, d, e, rfl, hw, gw, hd, vd, he, ve, q1, q2⟩ := h
    refine ⟨_, (pss_cons (ps_expr (pe_cal C_need_two hr (by first | decide | exact Nat.le_refl _) rfl (pa_cons (pv 0) (pa_cons (pv 1) (pa_cons (pv 2) (pa_cons (pv 3) pa_nil))))))
  (pss_cons (ps_if (pt_cmpR (op_neD hr.units) (pe_cal C_marks_in hr (by first | decide | exact Nat.le_refl _) rfl (pa_cons (pv 0) (pa_cons (pv 1) (pa_cons (pv 2) pa_nil)))) (pe_cal C_marks_in hr (by first | decide | exact Nat.le_refl _) rfl (pa_cons (pv 0) (pa_cons (pv 1) (pa_cons (pv 3) pa_nil)))) (nomark _)) (pss_one (ps_ret pe_non)) pss_nil)
  (pss_cons (ps_asg (pe_tup (pa_cons (pe_cal C_steps_to hr (by first | decide | exact Nat.le_refl _) rfl (pa_cons (pv 0) (pa_cons (pv 1) (pa_cons (pv 3) pa_nil)))) (pa_cons (pe_lst pa_nil) (pa_cons (pv 2) pa_nil)))) (pg_tup rfl (pgs_cons (pg_name (i := 4) sc_way_between.nd rfl (Or.inr rfl)) (pgs_cons (pg_name (i := 5) sc_way_between.nd rfl (Or.inl rfl)) (pgs_cons (pg_name (i := 6) sc_way_between.nd rfl (Or.inr rfl)) pgs_nil)))))
  (pss_cons (ps_while PassesOwn.never (pt_cmpR (op_neI hr.units) (pv 6) (pv 3) (nomark _)) (pss_cons (ps_set (i := 7) sc_way_between.nd rfl (Or.inl rfl) (pe_ix ix_l (pe_lc (own := [("arrow", 7)]) (g := gName 7) rfl sc_way_between.nd (pi_tup (pe_ix ix_t (pv 0) pe_int (fun _ _ => rfl))) (blkOk_by (own := [("arrow", 7)]) (N := N_way_between) (sc := defScope s_way_between) (by decide +kernel)) (fun _ _ _ _ _ => (pg_name (i := 7) sc_way_between.nd rfl (Or.inl rfl))) (fun _ _ _ _ _ => (pts_one (pt_cmpR op_eq (pe_dget (hu_of hr) (pv 4) (pe_cal C_step hr (by first | decide | exact Nat.le_refl _) rfl (pa_cons (pv 1) (pa_cons (pv 6) (pa_cons (pv 7) pa_nil)))) (fun _ _ => rfl)) (pe_op op_sub (pe_dget (hu_of hr) (pv 4) (pv 6) (fun _ _ => rfl)) pe_int) (nomark _)))) (fun _ _ _ _ _ => (pv 7))) pe_int (fun _ _ => rfl)))
  (pss_cons (ps_expr (pe_bm PySem.F.plainAttrs_list PySem.F.slot_list_append PySem.F.type_list_append mt_append (pv 5) (pa_cons (pv 7) pa_nil)))
  (pss_one (ps_set (i := 6) sc_way_between.nd rfl (Or.inr rfl) (pe_cal C_step hr (by first | decide | exact Nat.le_refl _) rfl (pa_cons (pv 1) (pa_cons (pv 6) (pa_cons (pv 7) pa_nil)))))))))
  (pss_one (ps_ret (pe_callTy call_tupL rfl T.tuple bt_tuple (pa_cons (pv 5) pa_nil)))))))), ?_⟩
    have k2' := gw.k2
    have k0 : 0 < k := by omega
    obtain ⟨zz, hv, hz⟩ := id hw
    obtain ⟨us, hu, hall⟩ := id hz
    obtain ⟨ta, rfl, hta⟩ := id hu
    have ul : us.length = as.length := Paired.length hall
    refine ⟨_, rfl, _, rfl, _, rfl, _, rfl, v, y, z, n, k, as, d, e, rfl, hw, gw, hd, vd, he, ve, fun H1 e1 => ?_⟩
    refine ⟨_, rfl, _, rfl, _, rfl, v, y, n, k, as, d, rfl, hw.ex e1, gw, hd.ex e1, vd, fun l1 us1 H2 e2 hl1 h1 al1 => ?_⟩
    refine ⟨_, rfl, _, rfl, _, rfl, v, z, n, k, as, e, rfl, hw.ex (e1.trans e2), gw, he.ex (e1.trans e2), ve, fun l2 us2 H3 e3 hl2 h2 al2 => ?_⟩
    have ex3 := (e1.trans e2).trans e3
    have al1' : All2 (IsI H3) us1 ((marks n as k d).map mdat) := Paired.mapP al1 fun _ _ h => h.ex e3
    refine ⟨.list _, .list _, .lst (SqL.of (e3 _ _ h1)) (dpa_dials al1'), .lst (SqL.of h2) (dpa_dials al2), (sd_list (n := 3) (sd_dials _)).shaped (by decide), (sd_list (n := 3) (sd_dials _)).shaped (by decide), ?_⟩
    have ee : PyData.eqv (.list (((marks n as k d).map mdat).map idat)) (.list (((marks n as k e).map mdat).map idat)) = decide (marks n as k d = marks n as k e) := by
      rw [PyData.eqv, eqv_idats, Bool.eq_iff_iff, decide_eq_true_iff, decide_eq_true_iff]
      exact ⟨mdat_inj, fun h => by rw [h]⟩
    rw [ee]
    have ri := rc_iff gw.w k0 vd ve
    refine ⟨_, rfl, ?_⟩
    by_cases cm : marks n as k d = marks n as k e
    · rw [decide_eq_true cm]
      refine iteF ?_
      have rc := ri.mpr cm
      refine ⟨_, rfl, _, rfl, _, rfl, v, z, n, k, as, e, rfl, hw.ex ex3, gw, he.ex ex3, ve, fun lt kvs F H4 e4 hlt h4 kf A4 => ?_⟩
      refine ⟨Nat.zero_le _, fun lf hlf => ?_⟩
      refine ⟨_, rfl, by show 3 ≤ sizeLine; decide, fun tt htt => ?_⟩
      refine ⟨tt, _, rfl, SqT.of upd_same, rfl, _, _, rfl, _, _, rfl, _, _, rfl, rfl, ?_⟩
      obtain ⟨j0, hj0⟩ := reach_b gw.w k0 ve vd rc
      have j04 : j0 < 4096 := A4.lt _ ((A4.iff d j0).mpr hj0)
      have hb0 : Ex H4 (upd (upd H4 lf (.lst [])) tt (.tup [V.ref lt, V.ref lf, y])) := (Ex.new hlf).trans (Ex.new htt)
      have lft : lf ≠ tt := fun z => by rw [← z, upd_same] at htt; cases htt
      have ex4 := ex3.trans e4
      refine ⟨fun m σ H' => ∃ (h : List Nat) (wd : List Arw) (j : Nat) (x : V) (fs : List V) (o : Option V), σ = [some v, some (.int (k : Int)), some y, some z, some (.ref lt), some (.ref lf), some x, o] ∧ Ex H4 H' ∧ H' lf = some (.lst fs) ∧ All2 (IsA H') fs wd ∧ IsI H' x h ∧ VD n k h ∧ Ld as k d h wd ∧ Dst (Eb' as k) e h j ∧ wd.length + j = j0 ∧ Grd as k d e j0 wd ∧ m = j,
        ⟨_, d, [], j0, y, [], none, rfl, hb0, by rw [upd_ne lft]; exact upd_same, .nil, (hd.ex ex4).ex hb0, vd, ⟨fun _ h => (nomatch h), rfl⟩, hj0, Nat.zero_add _, fun v2 _ _ => .inl ⟨v2, rfl⟩, rfl⟩, ?_⟩
      rintro m σ H5 ⟨h, wd, j, x, fs, o, rfl, e5, hf5, af5, hx5, vh, ld, hj, lj, gd, rfl⟩
      have ex5 := ex4.trans e5
      refine ⟨_, rfl, _, rfl, h, e, hx5, he.ex ex5, _, rfl, ?_⟩
      by_cases c0 : h = e
      · subst c0
        rw [decide_eq_true rfl]
        refine iteF ?_
        refine ⟨_, rfl, lf, fs, rfl, SqL.of hf5, fun l hl => ?_⟩
        have j00 : m = 0 := hj.uniq .zero
        subst j00
        refine q2 _ wd _ (ex5.trans (Ex.new hl)) ⟨fs, IsT.mk upd_same, Paired.mapP af5 fun _ _ r => IsT.ex r (Ex.new hl)⟩ ⟨ld, fun v hv => ?_, fun v hv hvl => ?_⟩
        · obtain ⟨i, hi, hd⟩ := ((wkb_word gw.w k0 ve vd).mpr ⟨v, hv.1, rfl, hv.2⟩).dst
          have := hd.uniq hj0
          omega
        · rcases gd v hv (by omega) with ⟨v2, rfl⟩ | hh
          · rw [List.length_append] at hvl
            have : v2 = [] := List.length_eq_zero_iff.mp (by omega)
            rw [this, List.append_nil]
            exact wle_refl _
          · have := hh []
            rw [List.append_nil] at this
            exact wle_lt this
      · rw [decide_eq_false c0]
        have jpos : 0 < m := by
          rcases Nat.eq_zero_or_pos m with hh | hh
          · subst hh
            exact absurd hj.eq0 c0
          · exact hh
        refine iteT ⟨_, fun _ _ z => z, ?_⟩
        refine ⟨_, rfl, _, _, _, hv.ex ex5, rfl, atI_nat (j := 1) rfl, ta, rfl, ⟨_, SqT.of (ex5 _ _ hta)⟩, fun D hD => ?_⟩
        -- what told says
        have said : ∀ x : List Nat, (∃ j, Dst (Eb' as k) e x j) → ∃ jj, Dst (Eb' as k) e x jj ∧ valV kvs (ik x) = some (.int (jj : Int)) := fun x ⟨jj, hjj⟩ => by
          obtain ⟨vv, hvv, rv⟩ := kf.get A4.nd ((A4.iff x jj).mpr hjj)
          cases rv
          exact ⟨jj, hjj, hvv⟩
        have near : ∀ a ∈ as, ∃ jj, Dst (Eb' as k) e (stp k h a) jj ∧ valV kvs (ik (stp k h a)) = some (.int (jj : Int)) := fun a ha =>
          said _ (reach_b gw.w k0 ve (vh.stp k0 a) ((stp_back gw.w k0 vh ha).trans (b_reach gw.w k0 ve vh hj)))
        obtain ⟨jh, hjh, vjh⟩ := said h ⟨m, hj⟩
        have := hjh.uniq hj
        subst this
        have lt5 := e5 _ _ h4
        refine comp_it (walk_tup (K := K) (a := ta) (xs := us)) hD (fun i y H => ∃ a, as[i]? = some a ∧ decide ((stp k h a, jh - 1) ∈ F) = true ∧ IsA H y a) (fun i => ∃ a, as[i]? = some a ∧ decide ((stp k h a, jh - 1) ∈ F) = false) (by have := gw.len; omega) (fun _ e => SqT.of (e _ _ (ex5 _ _ hta))) yat_ex (fun i y H H' acc ha e ⟨a, h1, h0, h2⟩ => ⟨a, h1, h0, IsT.tm h2 (Tm.ofEb e ha (fun _ z => nomatch z))⟩) ?_ ?_
        · rintro i xa _ H6 hi e6 _ ⟨rfl, hx⟩ Q1 Q2 k1 k2
          obtain ⟨ar, har, hxar⟩ := all2_get hall hx
          have ham := List.mem_of_getElem? har
          refine ⟨rfl, ?_⟩
          have ex6 := ex5.trans e6
          refine ⟨_, rfl, _, rfl, _, rfl, _, rfl, x, xa, n, k, as, h, ar, rfl, gw, hx5.ex e6, vh, IsT.ex hxar ex6, ham, fun u H7 e7 hu7 => ?_⟩
          obtain ⟨jj, hjj, vjj⟩ := near ar ham
          refine ⟨lt, .int (jj : Int), rfl, by rw [← vjj]; exact dget_i ((e6.trans e7) _ _ lt5) hu7, ?_⟩
          refine ⟨_, rfl, _, rfl, lt, .int (jh : Int), rfl, by rw [← vjh]; exact dget_i ((e6.trans e7) _ _ lt5) (hx5.ex (e6.trans e7)), _, _, rfl, rfl, rfl, _, rfl, ?_⟩
          by_cases c1 : jj = jh - 1
          · have : decide (V.int (jj : Int) = V.int ((jh : Int) - 1)) = true := decide_eq_true (by rw [c1, Int.natCast_sub (by omega)]; rfl)
            rw [this]
            refine iteT ⟨_, rfl, k1 _ _ e7 ⟨ar, har, decide_eq_true ?_, IsT.ex hxar (ex6.trans e7)⟩⟩
            rw [← c1]
            exact (A4.iff _ _).mpr hjj
          · have : decide (V.int (jj : Int) = V.int ((jh : Int) - 1)) = false := decide_eq_false (fun z => c1 (by have := V.int.inj z; omega))
            rw [this]
            refine iteF (k2 _ e7 ⟨ar, har, decide_eq_false fun z => c1 ?_⟩)
            exact hjj.uniq ((A4.iff _ _).mp z)
        · intro os H6 e6 hos outs
          have al6 : All2 (IsA H6) os ((as.take us.length).filter fun a => decide ((stp k h a, jh - 1) ∈ F)) := outs.pick (by omega)
            (fun i y a ha ⟨a', h1, h2, h3⟩ => by
              rw [ha] at h1
              cases h1
              exact ⟨h3, h2⟩)
            (fun i a ha ⟨a', h1, h2⟩ => by
              rw [ha] at h1
              cases h1
              exact h2)
          rw [ul, List.take_length] at al6
          -- a next one there is
          have some_next : ∀ v2 : List Arw, (∀ a ∈ v2, a ∈ as) → v2.length = jh → runw k h v2 = e → ∃ b v3, v2 = b :: v3 ∧ b ∈ as ∧ decide ((stp k h b, jh - 1) ∈ F) = true := fun v2 g1 g2 g3 => by
            match v2, g1, g2, g3 with
            | [], _, g2, _ => simp at g2; omega
            | b :: v3, g1, g2, g3 =>
              have hb := g1 b List.mem_cons_self
              refine ⟨b, v3, rfl, hb, decide_eq_true ((A4.iff _ _).mpr ?_)⟩
              have vb := vh.stp k0 b
              obtain ⟨i, hi, hd⟩ := ((wkb_word gw.w k0 ve vb).mpr ⟨v3, fun a ha => g1 a (List.mem_cons_of_mem _ ha), rfl, g3⟩).dst
              have l3 : v3.length + 1 = jh := by simpa using g2
              have : jh - 1 = i := by
                rcases Nat.lt_or_ge i (jh - 1) with c | c
                · obtain ⟨w1, f1, f2, f3⟩ := (wkb_word gw.w k0 ve vb).mp hd.1
                  exact absurd ((wkb_word gw.w k0 ve vh).mpr ⟨b :: w1, fun a ha => by
                    rcases List.mem_cons.mp ha with rfl | ha
                    · exact hb
                    · exact f1 a ha, rfl, f3⟩) (hj.2 _ (by rw [List.length_cons, f2]; omega))
                · omega
              rw [this]
              exact hd
          obtain ⟨w0, f1, f2, f3⟩ := (wkb_word gw.w k0 ve vh).mp hj.1
          obtain ⟨b0, _, _, hb0, pb0⟩ := some_next w0 f1 f2 f3
          rcases hfe : as.filter fun a => decide ((stp k h a, jh - 1) ∈ F) with _ | ⟨ar, rest⟩
          · have : b0 ∈ as.filter fun a => decide ((stp k h a, jh - 1) ∈ F) := List.mem_filter.mpr ⟨hb0, pb0⟩
            rw [hfe] at this
            cases this
          obtain ⟨par, ham, first⟩ := filter_head gw.asc hfe
          rw [hfe] at al6
          obtain ⟨xa, hxa, hxar⟩ := all2_getR al6 (i := 0) (y := ar) rfl
          refine ⟨D, os, 0, xa, rfl, rfl, hos, atI_nat (j := 0) hxa, ?_⟩
          have ex6 := ex5.trans e6
          have hf6 : H6 lf = some (.lst fs) := e6 _ _ hf5
          have hD6 : lf ≠ D := fun z => by rw [← z, hf5] at hD; cases hD
          refine ⟨_, rfl, .inl ⟨rfl, _, SqL.of hf6⟩, _, rfl, lf, _, _, rfl, rfl, hf6, by rw [Paired.length af5]; exact sz4096 (by omega), ?_⟩
          obtain ⟨H7, eH7⟩ : ∃ H7, H7 = upd H6 lf (.lst (fs ++ [xa])) := ⟨_, rfl⟩
          rw [← eH7]
          have tm7 : Tm H6 H7 := by rw [eH7]; exact Tm.lst hf6
          have ex7 : Ex H4 H7 := by rw [eH7]; exact Ex.mut (e5.trans e6) hlf
          refine ⟨_, rfl, _, rfl, _, rfl, x, xa, n, k, as, h, ar, rfl, gw, (hx5.ex e6).tm tm7, vh, IsT.tm hxar tm7, ham, fun u H8 e8 hu8 => ?_⟩
          have hd' : Dst (Eb' as k) e (stp k h ar) (jh - 1) := (A4.iff _ _).mp (of_decide_eq_true par)
          refine ⟨jh - 1, by omega, stp k h ar, wd ++ [ar], jh - 1, u, fs ++ [xa], some xa, rfl, ex7.trans e8, e8 _ _ (by rw [eH7]; exact upd_same), ?_, hu8, vh.stp k0 ar, ⟨fun a ha => ?_, by rw [runw_app, ld.2]; rfl⟩, hd', by rw [List.length_append, List.length_singleton]; omega, fun vv hvv hl => ?_, rfl⟩
          · exact all2_snoc (Paired.mapP af5 fun _ _ r => IsT.tm (IsT.ex r e6) (tm7.trans (Tm.of e8))) (IsT.tm hxar (tm7.trans (Tm.of e8)))
          · rcases List.mem_append.mp ha with ha | ha
            · exact ld.1 a ha
            · rw [List.mem_singleton.mp ha]; exact ham
          · rcases gd vv hvv hl with ⟨v2, rfl⟩ | hh
            · have g3 : runw k h v2 = e := by
                have := hvv.2
                rw [runw_app, ld.2] at this
                exact this
              rw [List.length_append] at hl
              obtain ⟨b, v3, rfl, hb, pb⟩ := some_next v2 (fun a ha => hvv.1 a (List.mem_append_right _ ha)) (by omega) g3
              rcases first b hb pb with rfl | lt
              · exact .inl ⟨v3, by rw [List.append_assoc]; rfl⟩
              · refine .inr fun x => ?_
                rw [List.append_assoc]
                refine wlt_pre wd ?_
                show (if ar = b then wlt ([] ++ x) v3 else alt ar b) = true
                rw [if_neg (fun z => by rw [z, alt_irr] at lt; cases lt)]
                exact lt
            · exact .inr fun x => by rw [List.append_assoc]; exact hh _
    · rw [decide_eq_false cm]
      exact iteT (q1 (fun h => cm (ri.mp h)) _ ex3)
theorem ok_fewest_met (F : Fun K "fewest_met" "fewest_met" s_fewest_met f fd) (T : Bi mg) (C_need_wish : Cal P w K mg base 5 "need_wish" ["web", "hours", "dial", "wish"] spNeedWish) (C_need_few : Cal P w K mg base 6 "need_few" ["web", "hours", "dial"] spNeedFew) (C_steps_from : Cal P w K mg base 3 "steps_from" ["web", "hours", "dial"] spFrom) : FnOk P w K mg base CX0 7 f fd ["web", "hours", "dial", "wish"] spFewestMet := by
  refine F.ok sc_fewest_met (fun vs H Q E h => ?_) (fun cdv A outer s H vs Q E hr h => ?_)
  · obtain ⟨_, _, _, _, _, _, _, _, rfl, _⟩ := h
    rfl
  · obtain ⟨v, y, z, n, k, as, d, ws, rfl, hw, gw, hd, vd, hz, wi, q1, q2⟩ := h
    refine ⟨_, (pss_cons (ps_expr (pe_cal C_need_wish hr (by first | decide | exact Nat.le_refl _) rfl (pa_cons (pv 0) (pa_cons (pv 1) (pa_cons (pv 2) (pa_cons (pv 3) pa_nil))))))
  (pss_cons (ps_expr (pe_cal C_need_few hr (by first | decide | exact Nat.le_refl _) rfl (pa_cons (pv 0) (pa_cons (pv 1) (pa_cons (pv 2) pa_nil)))))
  (pss_cons (ps_par (i := 4) (j := 5) (by rfl) sc_fewest_met.nd rfl rfl (by decide) rfl rfl (pa_cons (pe_cal C_steps_from hr (by first | decide | exact Nat.le_refl _) rfl (pa_cons (pv 0) (pa_cons (pv 1) (pa_cons (pv 2) pa_nil)))) (pa_cons (pe_lst pa_nil) pa_nil)) (by rfl))
  (pss_cons (ps_lock (ps_for PassesOwn.never rfl (pi_keysT (pv 4)) (pg_name (i := 6) sc_fewest_met.nd rfl (Or.inr rfl)) (pss_one (ps_if (pt_cmpR (op_eqE hr.units) (pe_lc (own := [("k", 7), ("one", 8)]) (g := gTup K 2 (gCons (gName 7) (gCons (gName 8) gNil))) rfl sc_fewest_met.nd (pi_enumT rfl T.enum (pa_cons (pv 3) pa_nil)) (blkOk_by (own := [("k", 7), ("one", 8)]) (N := N_fewest_met) (sc := defScope s_fewest_met) (by decide +kernel)) (fun _ _ _ _ _ => (pg_tup rfl (pgs_cons (pg_name (i := 7) sc_fewest_met.nd rfl (Or.inl rfl) (hf := Or.inr rfl)) (pgs_cons (pg_name (i := 8) sc_fewest_met.nd rfl (Or.inl rfl) (hf := Or.inr rfl)) pgs_nil)))) (fun _ _ _ _ _ => (pts_one (PW.pt (pw_and (pt_cmpR op_notN (pv 8) pe_non (nomark _)) (pw_and1 (pt_cmpR op_ne (pv 8) (pe_ix ix_t (pv 6) (pv 7) (fun _ _ => rfl)) (nomark _))))))) (fun _ _ _ _ _ => (pv 7))) (pe_lst pa_nil) (nomark _)) (pss_one (ps_expr (pe_bm PySem.F.plainAttrs_list PySem.F.slot_list_append PySem.F.type_list_append mt_append (pv 5) (pa_cons (pe_dget (hu_of hr) (pv 4) (pv 6) (fun _ _ => rfl)) pa_nil)))) pss_nil))))
  (pss_one (ps_ret (pe_ifExp (pt_cmpR (op_neE hr.units) (pv 5) (pe_lst pa_nil) (nomark _)) (pe_callB (cr_min rfl) rfl T.min bt_min (pa_cons (pv 5) pa_nil)) pe_non))))))), ?_⟩
    have n4 := gw.n4
    obtain ⟨tz, rfl, htz⟩ := id hz
    have wl : (wv ws).length = n := by unfold wv; rw [List.length_map]; exact wi.1
    refine ⟨_, rfl, _, rfl, _, rfl, _, rfl, v, y, _, n, k, as, d, ws, rfl, hw, gw, hd, vd, hz, wi, fun H1 e1 => ?_⟩
    refine ⟨_, rfl, _, rfl, _, rfl, v, y, n, k, as, d, rfl, hw.ex e1, gw, hd.ex e1, vd, fun H2 e2 => ?_⟩
    have ex2 := e1.trans e2
    refine ⟨_, rfl, _, rfl, _, rfl, v, y, n, k, as, d, rfl, hw.ex ex2, gw, hd.ex ex2, vd, fun lt kvs F H3 e3 hlt h3 kf A3 => ?_⟩
    refine ⟨Nat.zero_le _, fun ls hls => ⟨_, _, rfl, ?_⟩⟩
    have ex3 := ex2.trans e3
    have hlt0 : H lt = none := by
      rcases e : H lt with _ | u
      · rfl
      · rw [ex2 _ _ e] at hlt; cases hlt
    have hls0 : H ls = none := by
      rcases e : H ls with _ | u
      · rfl
      · rw [ex3 _ _ e] at hls; cases hls
    have nls : lt ≠ ls := fun z => by rw [← z, h3] at hls; cases hls
    have hl4 : (upd H3 ls (.lst [])) lt = some (.dT kvs) := by rw [upd_ne nls]; exact h3
    refine ⟨lt, .dT kvs, hl4, True.intro, fun od => ?_⟩
    refine ⟨_, rfl, lt, od, kvs, rfl, upd_same, ?_⟩
    refine for_it (walk_keysT (kvs := kvs)) (fun i σ H' => ∃ (c : Option V), σ = [some v, some (.int (k : Int)), some y, some (.ref tz), some (.ref lt), some (.ref ls), c, none, none] ∧ Ex H H' ∧ H' lt = some (.frz od (.dT kvs)) ∧ H' ls = some (.lst (iv (((F.take i).filter fun p => fitb ws p.1).map (·.2)))))
      ⟨none, rfl, Ex.mut (ex3.trans (Ex.new hls)) hlt0, upd_same, by rw [upd_ne (Ne.symm nls)]; exact upd_same⟩ (fun i σ H' _ ⟨_, _, _, z, _⟩ => z) ?_ ?_
    · rintro i x σ _ H4 hi ⟨c, rfl, e4, f4, s4⟩ ⟨rfl, kk, vv, qa, hkv, rfl, hqa⟩
      obtain ⟨p, hp, hk1, hv1⟩ := all2_get kf hkv
      have hpm := List.mem_of_getElem? hp
      cases hv1
      have hk1 : kk = ik p.1 := hk1
      subst hk1
      rw [ik_kV] at hqa
      have vp := A3.vd p hpm
      have hq : IsI H4 (.ref qa) p.1 := IsT.mk hqa
      have ftake : ((F.take (i + 1)).filter fun p => fitb ws p.1).map (·.2) = ((F.take i).filter fun p => fitb ws p.1).map (·.2) ++ (if fitb ws p.1 = true then [p.2] else []) := by
        rw [List.take_add_one, hp, List.filter_append, List.map_append]
        congr 1
        show (List.filter _ [p]).map _ = _
        rw [List.filter_cons, List.filter_nil]
        split <;> rfl
      refine ⟨_, rfl, tz, _, rfl, SqT.of (e4 _ _ htz), fun D hD => ?_⟩
      refine comp_it (walk_enumT (K := K) (a := tz) (xs := wv ws)) hD (fun i y _ => y = .int (i : Int) ∧ bad ws p.1 i = true) (fun i => bad ws p.1 i = false) (by rw [wl]; omega) (fun _ e => SqT.of (e _ _ (e4 _ _ htz))) ypair_ex (fun _ _ _ _ _ _ _ h => h) ?_ ?_
      · rintro j xx H5 H6 hj e5 _ hy Q1 Q2 k1 k2
        obtain ⟨t, x2, rfl, ht, rfl, ex⟩ := ypair_enum hy
        refine ⟨t, _, rfl, SqT.of upd_same, rfl, _, _, rfl, _, _, rfl, rfl, ?_⟩
        refine ⟨rfl, ?_⟩
        have hjn : j < n := by rw [wl] at hj; exact hj
        unfold wv at ex
        rw [List.getElem?_map] at ex
        cases ew : ws[j]? with
        | none => rw [ew] at ex; cases ex
        | some o =>
          rw [ew] at ex
          cases o with
          | none =>
            cases ex
            refine ⟨_, rfl, rfl, _, rfl, ?_⟩
            refine iteF ?_
            refine iteF (k2 _ (Same.refl _) ?_)
            unfold bad
            rw [ew]
          | some m =>
            cases ex
            refine ⟨_, rfl, rfl, _, rfl, ?_⟩
            refine iteT ?_
            refine ⟨_, rfl, _, rfl, _, rfl, _, _, _, (hq.ex e5).ex (Ex.new ht), rfl, atI_d vp hjn, rfl, _, rfl, ?_⟩
            by_cases c0 : m = p.1.getD j 0
            · rw [decide_eq_true (show V.int (m : Int) = V.int ((p.1.getD j 0 : Nat) : Int) by rw [← c0])]
              refine iteF (k2 _ (Same.refl _) ?_)
              unfold bad
              rw [ew]
              simp only [c0, decide_true, Bool.not_true]
            · rw [decide_eq_false (show ¬ V.int (m : Int) = V.int ((p.1.getD j 0 : Nat) : Int) from fun z => c0 (by have := V.int.inj z; omega))]
              refine iteT ⟨_, rfl, k1 _ _ (Same.refl _) ⟨rfl, ?_⟩⟩
              unfold bad
              rw [ew]
              simp only [c0, decide_false, Bool.not_false]
      · intro os H5 e5 hos outs
        have eo := outs.filter (f := fun i => .int (i : Int)) (fun i y h => h) (fun i h => h)
        rw [wl, ← wi.1] at eo
        refine ⟨Nat.zero_le _, fun r hr' => ?_⟩
        have e6 := e5.trans (Ex.new hr' (o := .lst []))
        have em : os.isEmpty = fitb ws p.1 := by
          rw [eo]
          unfold fitb
          cases (List.range ws.length).filter (bad ws p.1) <;> rfl
        refine ⟨D, r, os, rfl, rfl, (Ex.new hr') _ _ hos, upd_same, ?_, _, rfl, ?_⟩
        · refine .inl ⟨((List.range ws.length).filter (bad ws p.1)).map fun i : Nat => (i : Int), ?_⟩
          rw [eo, List.map_map]
          rfl
        rw [em]
        rcases c0 : fitb ws p.1 with _ | _
        · refine iteF ⟨_, rfl, e4.trans e6, e6 _ _ f4, ?_⟩
          rw [ftake, c0]
          rw [if_neg (by decide), List.append_nil]
          exact e6 _ _ s4
        · refine iteT ?_
          have s5 := e6 _ _ s4
          obtain ⟨vv, hvv, rv⟩ := kf.get A3.nd hpm
          cases rv
          refine ⟨_, rfl, .inl ⟨rfl, _, SqL.of s5⟩, _, rfl, _, rfl, lt, .int (p.2 : Int), rfl, by rw [← hvv]; exact dget_r (.inr ⟨od, e6 _ _ f4⟩) (hq.ex e6), ls, _, _, rfl, rfl, s5, ?_, ?_⟩
          · rw [iv_len, List.length_map]
            have h1 := List.length_filter_le (fun p => fitb ws p.1) (F.take i)
            have h2 := List.length_take_le i F
            have h3 : (F.take i).length ≤ F.length := by rw [List.length_take]; omega
            have := A3.few
            exact sz4096 (by omega)
          · refine ⟨_, rfl, Ex.mut (e4.trans e6) hls0, by rw [upd_ne nls]; exact e6 _ _ f4, ?_⟩
            rw [ftake, c0, if_pos rfl]
            unfold iv
            rw [List.map_append]
            exact upd_same
    · rintro σ H4 ⟨c, rfl, e4, f4, s4⟩
      refine ⟨f4, ?_⟩
      rw [List.take_of_length_le (by rw [kf.len]; exact Nat.le_refl _)] at s4
      obtain ⟨vals, hvals⟩ : ∃ vals, vals = (F.filter fun p => fitb ws p.1).map (·.2) := ⟨_, rfl⟩
      rw [← hvals] at s4
      have mv : ∀ j, j ∈ vals ↔ ∃ e, Dst (Ef as k) d e j ∧ Fits ws e := fun j => by
        rw [hvals, List.mem_map]
        constructor
        · rintro ⟨p, hp, rfl⟩
          obtain ⟨h1, h2⟩ := List.mem_filter.mp hp
          exact ⟨p.1, (A3.iff _ _).mp h1, fitb_iff.mp h2⟩
        · rintro ⟨e, h1, h2⟩
          exact ⟨(e, j), List.mem_filter.mpr ⟨(A3.iff _ _).mpr h1, fitb_iff.mpr h2⟩, rfl⟩
      have e5 : Ex H (upd H4 lt (.dT kvs)) := Ex.mut e4 hlt0
      have s5 : (upd H4 lt (.dT kvs)) ls = some (.lst (iv vals)) := by rw [upd_ne (Ne.symm nls)]; exact s4
      refine ⟨_, rfl, Nat.zero_le _, fun r hr' => ?_⟩
      have e6 := e5.trans (Ex.new hr' (o := .lst []))
      have s6 : (upd (upd H4 lt (.dT kvs)) r (.lst [])) ls = some (.lst (iv vals)) := (Ex.new hr') _ _ s5
      refine ⟨ls, r, _, rfl, rfl, s6, upd_same, sim_iv _, _, rfl, ?_⟩
      by_cases c0 : vals = []
      · subst c0
        refine iteF (q1 (fun e j hd hf => ?_) _ e6)
        have := (mv j).mpr ⟨e, hd, hf⟩
        cases this
      · have : (!(iv vals).isEmpty) = true := by
          cases vals with
          | nil => exact absurd rfl c0
          | cons a b => rfl
        rw [this]
        refine iteT ⟨_, rfl, ls, ii vals, rfl, by rw [iv_ii]; exact SqL.of s6, ?_, fun m hm hmin => ?_⟩
        · unfold ii
          rw [List.length_map]
          exact List.length_pos_iff.mpr c0
        · obtain ⟨x, hx, rfl⟩ := List.mem_map.mp hm
          refine q2 x _ e6 ((mv x).mp hx) (fun e j hd hf => ?_)
          have := hmin (j : Int) (List.mem_map.mpr ⟨j, (mv j).mpr ⟨e, hd, hf⟩, rfl⟩)
          omega
end
end CK

/-! _law_taken, _law_pick, _law_web, _law_dial, _law_small -/
namespace CK
open PySem PySem.Spec PyProof.Rows L2 CA
/-- the script stays readable whatever is done to the row at r -/
def ScOk (K : PySem.W.Frag) (r a : Addr) (xs : List V) (H : Hp) : Prop := ∀ H', Eb r H H' → SqL K H' a xs
/-- the row -/
def RowS (r a : Addr) (H : Hp) : Prop := ∃ i1 i2 i3 : Int, H r = some (.lst [.ref a, .int i1, .int i2, .int i3]) ∧ 0 ≤ i1 ∧ 0 ≤ i2 ∧ i2 < 2147483647 ∧ 0 ≤ i3
theorem ScOk.eb {K : PySem.W.Frag} {r a : Addr} {xs : List V} {H H' : Hp} (h : ScOk K r a xs H) (e : Eb r H H') : ScOk K r a xs H' := fun _ e' => h _ (e.trans e')
theorem RowS.ex {r a : Addr} {H H' : Hp} (h : RowS r a H) (e : Ex H H') : RowS r a H' := by
  obtain ⟨i1, i2, i3, h, q⟩ := h
  exact ⟨i1, i2, i3, e _ _ h, q⟩
theorem RowS.ne {r a : Addr} {H : Hp} (h : RowS r a H) : H r ≠ none := by
  obtain ⟨i1, i2, i3, h, q⟩ := h
  rw [h]
  exact fun z => nomatch z
theorem RowS.put {r a b : Addr} {H : Hp} {o : HO} (h : RowS r a H) (ne : b ≠ r) : RowS r a (upd H b o) := by
  obtain ⟨i1, i2, i3, h, q⟩ := h
  exact ⟨i1, i2, i3, by rw [upd_ne (Ne.symm ne)]; exact h, q⟩
theorem Eb.mut {r b : Addr} {H0 H : Hp} {o : HO} (e : Eb r H0 H) (h : H0 b = none) : Eb r H0 (upd H b o) := fun c u nc hc => by
  rw [upd_ne (ne_of_none hc h)]
  exact e c u nc hc
theorem Eb.tm {r a : Addr} {H H' : Hp} (e : Eb r H H') (h : RowS r a H) : Tm H H' := by
  obtain ⟨i1, i2, i3, h, q⟩ := h
  exact Tm.ofEb e h (fun _ z => nomatch z)
theorem sz4096' {m : Nat} (h : m ≤ 4096) : m < sizeLine := Nat.lt_of_le_of_lt h (by decide)
def spTaken (K : PySem.W.Frag) : Sp := fun vs H Q _ => ∃ (r a : Addr) (ns : List Int) (m : Nat), vs = [.ref r, .int (m : Int)] ∧ RowS r a H ∧ ScOk K r a (ns.map V.int) H ∧ 1 ≤ m ∧ m ≤ 100000 ∧
  ∀ (x : Nat) H', Eb r H H' → RowS r a H' → x < m → Q (.int (x : Int)) H'
def spPick (K : PySem.W.Frag) : Sp := fun vs H Q _ => ∃ (r a l : Addr) (ns : List Int) (xs : List V), vs = [.ref r, .ref l] ∧ RowS r a H ∧ ScOk K r a (ns.map V.int) H ∧ l ≠ r ∧ H l = some (.lst xs) ∧ 1 ≤ xs.length ∧ xs.length ≤ 100000 ∧
  ∀ v H', Eb r H H' → RowS r a H' → v ∈ xs → Q v H'
def spWeb (K : PySem.W.Frag) : Sp := fun vs H Q _ => ∃ (r a : Addr) (ns : List Int), vs = [.ref r, .int 4] ∧ RowS r a H ∧ ScOk K r a (ns.map V.int) H ∧
  ∀ v n as H', Eb r H H' → RowS r a H' → IsWeb H' v n as → 1 ≤ n → n ≤ 4 → VW n as → Asc as → Q v H'
def spDial (K : PySem.W.Frag) : Sp := fun vs H Q _ => ∃ (r a : Addr) (ns : List Int) (v : V) (n k : Nat) (as : List Arw), vs = [.ref r, v, .int (k : Int)] ∧ RowS r a H ∧ ScOk K r a (ns.map V.int) H ∧ IsWeb H v n as ∧ 1 ≤ n ∧ n ≤ 4 ∧ 2 ≤ k ∧ k ≤ 24 ∧
  ∀ u d H', Eb r H H' → RowS r a H' → IsI H' u d → VD n k d → Q u H'
def spSmall (K : PySem.W.Frag) : Sp := fun vs H Q _ => ∃ (r a : Addr) (ns : List Int), vs = [.ref r] ∧ RowS r a H ∧ ScOk K r a (ns.map V.int) H ∧
  ∀ u v y n k as d H', Eb r H H' → RowS r a H' → IsT H' u [v, .int ((k : Nat) : Int), y] → IsWeb H' v n as → GW n k as → IsI H' y d → VD n k d → Q u H'
theorem web_fin {H : Hp} {us : List V} {arr : List Arw} {n : Nat} (n4 : n ≤ 4) (al : All2 (IsA H) us arr) (v1 : ∀ a ∈ arr, a.1 < n ∧ a.2 < n ∧ a.1 ≠ a.2) (hl : arr.length ≤ 17) :
    ∃ ks : List (Addr × List Int), us = ks.map (fun p => V.ref p.1) ∧ (∀ p ∈ ks, H p.1 = some (.tup (p.2.map V.int))) ∧ ks.length < 64 ∧ (∀ p ∈ ks, p.2.length = 2 ∧ TS.Bd 64 p.2) ∧
      ∀ L' : List (Addr × List Int), (∀ p ∈ L', p ∈ ks) → (L'.map (·.2)).Nodup → L'.Pairwise (fun q r => TS.code 64 q.2 ≤ TS.code 64 r.2) → ∃ as, VW n as ∧ Asc as ∧ ∀ H', Ex H H' → All2 (IsA H') (L'.map fun q => V.ref q.1) as := by
  have al2 : All2 (IsI H) us (arr.map fun a => [a.1, a.2]) := by
    refine all2_of (by rw [List.length_map]; exact Paired.length al) fun i x m hx hm => ?_
    obtain ⟨a, ha, hxa⟩ := all2_get al hx
    rw [List.getElem?_map, ha] at hm
    cases hm
    exact hxa
  obtain ⟨ks, k1, k2, k3⟩ := ks_of al2
  have kl : ks.length = arr.length := by
    have := congrArg List.length k3
    rw [List.length_map, List.length_map, List.length_map] at this
    exact this
  have mem : ∀ p ∈ ks, ∃ a, a ∈ arr ∧ p.2 = [(a.1 : Int), (a.2 : Int)] := fun p hp => by
    have : p.2 ∈ ks.map (·.2) := List.mem_map.mpr ⟨p, hp, rfl⟩
    rw [k3] at this
    obtain ⟨e, he, h⟩ := List.mem_map.mp this
    obtain ⟨a, ha, rfl⟩ := List.mem_map.mp he
    exact ⟨a, ha, h.symm⟩
  refine ⟨ks, k1, k2, by omega, fun p hp => ?_, fun L' sub nd srt => ?_⟩
  · obtain ⟨a, ha, h⟩ := mem p hp
    obtain ⟨h1, h2, _⟩ := v1 a ha
    rw [h]
    refine ⟨rfl, fun m hm => ?_⟩
    simp only [List.mem_cons, List.not_mem_nil, or_false] at hm
    rcases hm with rfl | rfl <;> omega
  · refine ⟨L'.map fun q => ((q.2.getD 0 0).toNat, (q.2.getD 1 0).toNat), ?_, ?_, fun H' e => ?_⟩
    · have : ∀ b ∈ L'.map (fun q => ((q.2.getD 0 0).toNat, (q.2.getD 1 0).toNat)), b ∈ arr := fun b hb => by
        obtain ⟨p, hp, rfl⟩ := List.mem_map.mp hb
        obtain ⟨a, ha, h⟩ := mem p (sub p hp)
        rw [h]
        show ((((a.1 : Nat) : Int)).toNat, (((a.2 : Nat) : Int)).toNat) ∈ arr
        rw [Int.toNat_natCast, Int.toNat_natCast]
        exact ha
      exact ⟨fun b hb => (v1 b (this b hb)).1, fun b hb => (v1 b (this b hb)).2.1, fun b hb => (v1 b (this b hb)).2.2⟩
    · unfold Asc
      rw [List.pairwise_map]
      have nd' : L'.Pairwise fun q r => q.2 ≠ r.2 := by
        have := nd
        unfold List.Nodup at this
        rw [List.pairwise_map] at this
        exact this
      refine List.Pairwise.imp_of_mem (fun {p q} hp hq hh => ?_) (srt.and nd')
      obtain ⟨a, ha, h⟩ := mem p (sub p hp)
      obtain ⟨b, hb, h'⟩ := mem q (sub q hq)
      obtain ⟨g1, g2, _⟩ := v1 a ha
      obtain ⟨g3, g4, _⟩ := v1 b hb
      rw [h, h'] at hh ⊢
      have := pair_lt hh.1 hh.2 ⟨by omega, by omega⟩ ⟨by omega, by omega⟩ ⟨by omega, by omega⟩ ⟨by omega, by omega⟩
      show alt ((((a.1 : Nat) : Int)).toNat, (((a.2 : Nat) : Int)).toNat) ((((b.1 : Nat) : Int)).toNat, (((b.2 : Nat) : Int)).toNat) = true
      rw [Int.toNat_natCast, Int.toNat_natCast, Int.toNat_natCast, Int.toNat_natCast]
      exact decide_eq_true (by show a.1 < b.1 ∨ (a.1 = b.1 ∧ a.2 < b.2); omega)
    · refine all2_of (by rw [List.length_map, List.length_map]) fun i x m hx hm => ?_
      rw [List.getElem?_map] at hx hm
      cases eq : L'[i]? with
      | none => rw [eq] at hx; cases hx
      | some p =>
        rw [eq] at hx hm
        cases hx
        cases hm
        have pk := sub p (List.mem_of_getElem? eq)
        obtain ⟨a, ha, h⟩ := mem p pk
        have h1 := e _ _ (k2 p pk)
        show IsT H' (.ref p.1) [.int (((p.2.getD 0 0).toNat : Nat) : Int), .int (((p.2.getD 1 0).toNat : Nat) : Int)]
        rw [h] at h1 ⊢
        show IsT H' (.ref p.1) [.int ((((a.1 : Nat) : Int).toNat : Nat) : Int), .int ((((a.2 : Nat) : Int).toNat : Nat) : Int)]
        rw [Int.toNat_natCast, Int.toNat_natCast]
        exact IsT.mk h1
section
variable {P : Program} {w : World} {K : PySem.W.Frag} {mg : Str → Option Value} {base : Heap} {f : Addr} {fd : FuncData}
theorem ok_law_taken (F : Fun K "_law_taken" "_law_taken" s_law_taken f fd) (T : Bi mg) : FnOk P w K mg base CX0 1 f fd ["_law_row", "_law_many"] (spTaken K) := by
  refine F.ok sc_law_taken (fun vs H Q E h => ?_) (fun cdv A outer s H vs Q E hr h => ?_)
  · obtain ⟨_, _, _, _, rfl, _⟩ := h
    rfl
  · obtain ⟨r, a, ns, m, rfl, ⟨i1, i2, i3, hrw, p1, p2, p2', p3⟩, sc, m1, m9, q⟩ := h
    refine ⟨_, (pss_cons (ps_if (pt_cmpR op_gt (pe_ix ix_l (pv 0) pe_int (fun _ _ => rfl)) pe_int (nomark _)) (pss_cons (ps_set (i := 2) sc_law_taken.nd rfl (Or.inl rfl) (pe_op op_mod (pe_callTy call_intI rfl T.int bt_int (pa_cons (pe_ix ix_l (pv 0) pe_int (fun _ _ => rfl)) pa_nil)) (pv 1)))
  (pss_cons (ps_asg (pe_op op_fdiv (pe_ix ix_l (pv 0) pe_int (fun _ _ => rfl)) (pv 1)) (pg_sub (pv 0) pe_int set_list))
  (pss_one (ps_ret (pv 2))))) pss_nil)
  (pss_cons (ps_asg (pe_op op_add (pe_ix ix_l (pv 0) pe_int (fun _ _ => rfl)) pe_int) (pg_sub (pv 0) pe_int set_list))
  (pss_cons (ps_if (pt_cmpR op_gt (pe_ix ix_l (pv 0) pe_int (fun _ _ => rfl)) (pe_callB call_lenL rfl T.len bt_len (pa_cons (pe_ix ix_l (pv 0) pe_int (fun _ _ => rfl)) pa_nil)) (nomark _)) (pss_cons (ps_asg (pe_op op_mod (pe_callTy call_intI rfl T.int bt_int (pa_cons (pe_op op_add (pe_op op_mul (pe_ix ix_l (pv 0) pe_int (fun _ _ => rfl)) pe_int) pe_int) pa_nil)) pe_int) (pg_sub (pv 0) pe_int set_list))
  (pss_one (ps_ret (pe_op op_mod (pe_callTy call_intI rfl T.int bt_int (pa_cons (pe_op op_fdiv (pe_ix ix_l (pv 0) pe_int (fun _ _ => rfl)) pe_int) pa_nil)) (pv 1))))) pss_nil)
  (pss_cons (ps_set (i := 3) sc_law_taken.nd rfl (Or.inl rfl) (pe_ix ix_list (pe_ix ix_l (pv 0) pe_int (fun _ _ => rfl)) (pe_op op_sub (pe_ix ix_l (pv 0) pe_int (fun _ _ => rfl)) pe_int) (fun _ _ => rfl)))
  (pss_cons (ps_asg (pe_op op_mod (pe_callTy call_intI rfl T.int bt_int (pa_cons (pe_op op_add (pe_op op_add (pe_op op_mul (pe_ix ix_l (pv 0) pe_int (fun _ _ => rfl)) pe_int) (pv 3)) pe_int) pa_nil)) pe_int) (pg_sub (pv 0) pe_int set_list))
  (pss_cons (ps_if (pt_cmpR op_ge (pv 3) (pe_op op_pow pe_int pe_int) (nomark _)) (pss_one (ps_asg (pe_op op_fdiv (pv 3) (pv 1)) (pg_sub (pv 0) pe_int set_list))) pss_nil)
  (pss_one (ps_ret (pe_op op_mod (pe_callTy call_intI rfl T.int bt_int (pa_cons (pv 3) pa_nil)) (pv 1)))))))))), ?_⟩
    have mpos : (0 : Int) < (m : Int) := by omega
    refine ⟨_, rfl, r, _, _, _, rfl, rfl, hrw, atI_nat (j := 3) rfl, _, _, rfl, rfl, _, rfl, ?_⟩
    have md : ∀ i : Int, ∃ x : Nat, i % (m : Int) = (x : Int) ∧ x < m := fun i => ⟨(i % (m : Int)).toNat, by have := Int.emod_nonneg i (show (m : Int) ≠ 0 by omega); omega, by have := Int.emod_nonneg i (show (m : Int) ≠ 0 by omega); have := Int.emod_lt_of_pos i mpos; omega⟩
    have putr : ∀ {H' : Hp} {o : HO}, Eb r H H' → Eb r H (upd H' r o) := fun e => e.trans Eb.put
    refine ite2 (fun c => ?_) (fun c => ?_)
    · obtain ⟨x, hx, xm⟩ := md i3
      refine ⟨_, rfl, r, _, _, _, rfl, rfl, hrw, atI_nat (j := 3) rfl, _, rfl, _, rfl, _, _, rfl, rfl, mpos, ?_⟩
      refine ⟨_, rfl, r, _, _, _, rfl, rfl, hrw, atI_nat (j := 3) rfl, _, rfl, _, _, rfl, rfl, ⟨mpos, by omega⟩, _, rfl, r, _, _, 3, rfl, rfl, hrw, rfl, ?_⟩
      refine ⟨_, rfl, ?_⟩
      have := q x (upd H r (.lst [.ref a, .int i1, .int i2, .int (i3 / (m : Int))])) (putr (Eb.refl r H)) ⟨i1, i2, i3 / (m : Int), upd_same, p1, p2, p2', Int.ediv_nonneg p3 (by omega)⟩ xm
      rw [← hx] at this
      exact this
    · refine ⟨_, rfl, r, _, _, _, rfl, rfl, hrw, atI_nat (j := 1) rfl, _, _, rfl, rfl, _, rfl, r, _, _, 1, rfl, rfl, hrw, rfl, ?_⟩
      obtain ⟨H1, eH1⟩ : ∃ H1, H1 = upd H r (.lst [.ref a, .int (i1 + 1), .int i2, .int i3]) := ⟨_, rfl⟩
      have hr1 : H1 r = some (.lst [.ref a, .int (i1 + 1), .int i2, .int i3]) := by rw [eH1]; exact upd_same
      have b1 : Eb r H H1 := by rw [eH1]; exact Eb.put
      have bring : (upd H r (.lst ([V.ref a, .int i1, .int i2, .int i3].set 1 (.int (i1 + 1))))) = H1 := eH1.symm
      show tSeq _ _ _ _ _
      rw [bring]
      refine ⟨_, rfl, r, _, _, _, rfl, rfl, hr1, atI_nat (j := 1) rfl, _, rfl, r, _, _, _, rfl, rfl, hr1, atI_nat (j := 0) rfl, a, _, rfl, sc _ b1, _, _, rfl, rfl, _, rfl, ?_⟩
      refine ite2 (fun c1 => ?_) (fun c1 => ?_)
      · refine ⟨_, rfl, r, _, _, _, rfl, rfl, hr1, atI_nat (j := 2) rfl, _, _, rfl, rfl, .inl ⟨by omega, by omega⟩, _, _, rfl, rfl, _, rfl, _, _, rfl, rfl, (by show (0 : Int) < 2147483647; decide), _, rfl, r, _, _, 2, rfl, rfl, hr1, rfl, ?_⟩
        refine ⟨_, rfl, r, _, _, _, rfl, rfl, upd_same, atI_nat (j := 2) rfl, _, _, rfl, rfl, ⟨by decide, by decide⟩, _, rfl, _, rfl, _, _, rfl, rfl, mpos, ?_⟩
        obtain ⟨x, hx, xm⟩ := md ((i2 * 48271 + 11) % 2147483647 / 7)
        have := q x (upd H1 r (.lst [.ref a, .int (i1 + 1), .int ((i2 * 48271 + 11) % 2147483647), .int i3])) (putr b1) ⟨i1 + 1, (i2 * 48271 + 11) % 2147483647, i3, upd_same, by omega, by omega, by omega, p3⟩ xm
        rw [← hx] at this
        exact this
      · have c2 : i1 < (ns.length : Int) := by
          have : ¬ (((ns.map V.int).length : Nat) : Int) < i1 + 1 := fun z => c1 (decide_eq_true z)
          rw [List.length_map] at this
          omega
        obtain ⟨cell, hcell⟩ : ∃ cell, ns[i1.toNat]? = some cell := ⟨_, List.getElem?_eq_getElem (show i1.toNat < ns.length by omega)⟩
        have hat : atI (ns.map V.int) (i1 + 1 - 1) = some (.int cell) := by
          have e : i1 + 1 - 1 = ((i1.toNat : Nat) : Int) := by omega
          rw [e]
          exact atI_nat (by rw [List.getElem?_map, hcell]; rfl)
        refine ⟨_, rfl, r, _, _, _, rfl, rfl, hr1, atI_nat (j := 0) rfl, _, rfl, r, _, _, _, rfl, rfl, hr1, atI_nat (j := 1) rfl, _, _, rfl, rfl, a, _, _, _, rfl, rfl, sc _ b1, hat, ?_⟩
        refine ⟨_, rfl, r, _, _, _, rfl, rfl, hr1, atI_nat (j := 2) rfl, _, _, rfl, rfl, .inl ⟨by omega, by omega⟩, _, rfl, _, _, rfl, rfl, _, _, rfl, rfl, _, rfl, _, _, rfl, rfl, (by show (0 : Int) < 2147483647; decide), _, rfl, r, _, _, 2, rfl, rfl, hr1, rfl, ?_⟩
        obtain ⟨H2, eH2⟩ : ∃ H2, H2 = upd H1 r (.lst [.ref a, .int (i1 + 1), .int ((i2 * 48271 + cell + 11) % 2147483647), .int i3]) := ⟨_, rfl⟩
        have hr2 : H2 r = some (.lst [.ref a, .int (i1 + 1), .int ((i2 * 48271 + cell + 11) % 2147483647), .int i3]) := by rw [eH2]; exact upd_same
        have b2 : Eb r H H2 := by rw [eH2]; exact putr b1
        have bring2 : (upd H1 r (.lst ([V.ref a, .int (i1 + 1), .int i2, .int i3].set 2 (.int ((i2 * 48271 + cell + 11) % 2147483647))))) = H2 := eH2.symm
        show tSeq _ _ _ _ _
        rw [bring2]
        obtain ⟨x, hx, xm⟩ := md cell
        refine ⟨_, rfl, _, _, rfl, rfl, ⟨by decide, by decide, by decide⟩, _, _, rfl, rfl, _, rfl, ?_⟩
        refine ite2 (fun c3 => ?_) (fun c3 => ?_)
        · have c4 : (0 : Int) ≤ cell := by
            have h1 : ((10 : Int) ^ (18 : Int).toNat) ≤ cell := of_decide_eq_true c3
            have h2 : (0 : Int) ≤ (10 : Int) ^ (18 : Int).toNat := by decide
            omega
          refine ⟨_, rfl, _, rfl, _, _, rfl, rfl, ⟨mpos, by omega⟩, _, rfl, r, _, _, 3, rfl, rfl, hr2, rfl, ?_⟩
          refine ⟨_, rfl, _, rfl, _, rfl, _, _, rfl, rfl, mpos, ?_⟩
          have := q x (upd H2 r (.lst [.ref a, .int (i1 + 1), .int ((i2 * 48271 + cell + 11) % 2147483647), .int (cell / (m : Int))])) (putr b2) ⟨i1 + 1, (i2 * 48271 + cell + 11) % 2147483647, cell / (m : Int), upd_same, by omega, by omega, by omega, Int.ediv_nonneg c4 (by omega)⟩ xm
          rw [← hx] at this
          exact this
        · refine ⟨_, rfl, _, rfl, _, rfl, _, _, rfl, rfl, mpos, ?_⟩
          have := q x H2 b2 ⟨i1 + 1, (i2 * 48271 + cell + 11) % 2147483647, i3, hr2, by omega, by omega, by omega, p3⟩ xm
          rw [← hx] at this
          exact this
theorem ok_law_pick (F : Fun K "_law_pick" "_law_pick" s_law_pick f fd) (T : Bi mg) (C_law_taken : Cal P w K mg base 1 "_law_taken" ["_law_row", "_law_many"] (spTaken K)) : FnOk P w K mg base CX0 2 f fd ["_law_row", "_law_things"] (spPick K) := by
  refine F.ok sc_law_pick (fun vs H Q E h => ?_) (fun cdv A outer s H vs Q E hr h => ?_)
  · obtain ⟨_, _, _, _, _, rfl, _⟩ := h
    rfl
  · obtain ⟨r, a, l, ns, xs, rfl, row, sc, ne, hl, l1, l9, q⟩ := h
    refine ⟨_, (pss_one (ps_ret (pe_ix ix_l (pv 1) (pe_cal C_law_taken hr (by first | decide | exact Nat.le_refl _) rfl (pa_cons (pv 0) (pa_cons (pe_callB call_lenL rfl T.len bt_len (pa_cons (pv 1) pa_nil)) pa_nil))) (fun _ _ => rfl)))), ?_⟩
    refine ⟨_, rfl, _, rfl, _, rfl, l, xs, rfl, SqL.of hl, r, a, ns, xs.length, rfl, row, sc, l1, l9, fun x H1 b1 r1 hx => ?_⟩
    have hl1 := b1 _ _ ne hl
    obtain ⟨v, hv⟩ : ∃ v, xs[x]? = some v := ⟨_, List.getElem?_eq_getElem hx⟩
    exact ⟨l, xs, _, v, rfl, rfl, hl1, atI_nat hv, q v H1 b1 r1 (List.mem_of_getElem? hv)⟩
theorem ok_law_web (F : Fun K "_law_web" "_law_web" s_law_web f fd) (T : Bi mg) (C_law_taken : Cal P w K mg base 1 "_law_taken" ["_law_row", "_law_many"] (spTaken K)) (C_law_pick : Cal P w K mg base 2 "_law_pick" ["_law_row", "_law_things"] (spPick K)) : FnOk P w K mg base CX0 3 f fd ["_law_row", "_law_most"] (spWeb K) := by
  refine F.ok sc_law_web (fun vs H Q E h => ?_) (fun cdv A outer s H vs Q E hr h => ?_)
  · obtain ⟨_, _, _, rfl, _⟩ := h
    rfl
  · obtain ⟨r, a, ns, rfl, row, sc, q⟩ := h
    refine ⟨_, (pss_cons (ps_par (i := 2) (j := 3) (by rfl) sc_law_web.nd rfl rfl (by decide) rfl rfl (pa_cons (pe_op op_add pe_int (pe_cal C_law_taken hr (by first | decide | exact Nat.le_refl _) rfl (pa_cons (pv 0) (pa_cons (pv 1) pa_nil)))) (pa_cons (pe_cal C_law_taken hr (by first | decide | exact Nat.le_refl _) rfl (pa_cons (pv 0) (pa_cons pe_int pa_nil))) pa_nil)) (by rfl))
  (pss_cons (ps_par (i := 4) (j := 5) (by rfl) sc_law_web.nd rfl rfl (by decide) rfl rfl (pa_cons (pe_cal C_law_pick hr (by first | decide | exact Nat.le_refl _) rfl (pa_cons (pv 0) (pa_cons (pe_lst (pa_cons pe_int (pa_cons pe_int (pa_cons pe_int pa_nil)))) pa_nil))) (pa_cons (pe_lst pa_nil) pa_nil)) (by rfl))
  (pss_cons (ps_for PassesOwn.never rfl (pi_range1 rfl T.range (pa_cons (pv 2) pa_nil)) (pg_name (i := 6) sc_law_web.nd rfl (Or.inl rfl)) (pss_one (ps_for PassesOwn.never rfl (pi_range1 rfl T.range (pa_cons (pv 2) pa_nil)) (pg_name (i := 7) sc_law_web.nd rfl (Or.inl rfl)) (pss_one (ps_if (PW.pt (pw_and (pt_cmpR op_ne (pv 6) (pv 7) (nomark _)) (pw_and1 (PW.pt (pw_or (PW.pt (pw_and (pt_cmpR op_lt (pv 3) pe_int (nomark _)) (pw_and1 (pt_cmpR op_eq (pe_cal C_law_taken hr (by first | decide | exact Nat.le_refl _) rfl (pa_cons (pv 0) (pa_cons (pv 4) pa_nil))) pe_int (nomark _))))) (pw_or1 (PW.pt (pw_and (pt_cmpR op_eq (pv 3) pe_int (nomark _)) (pw_and (pt_cmpR op_lt (pv 6) (pv 7) (nomark _)) (pw_and1 (pt_cmpR op_eq (pe_cal C_law_taken hr (by first | decide | exact Nat.le_refl _) rfl (pa_cons (pv 0) (pa_cons pe_int pa_nil))) pe_int (nomark _)))))))))))) (pss_one (ps_expr (pe_bm PySem.F.plainAttrs_list PySem.F.slot_list_append PySem.F.type_list_append mt_append (pv 5) (pa_cons (pe_tup (pa_cons (pv 6) (pa_cons (pv 7) pa_nil))) pa_nil)))) pss_nil)))))
  (pss_cons (ps_if (pt_cmpR op_gt (pv 3) pe_int (nomark _)) (pss_one (ps_set (i := 5) sc_law_web.nd rfl (Or.inl rfl) (pe_op op_cat (pe_lc (own := [("_law_k", 6)]) (g := gName 6) rfl sc_law_web.nd (pi_range1 rfl T.range (pa_cons (pe_op op_sub (pv 2) pe_int) pa_nil)) (blkOk_by (own := [("_law_k", 6)]) (N := N_law_web) (sc := defScope s_law_web) (by decide +kernel)) (fun _ _ _ _ _ => (pg_name (i := 6) sc_law_web.nd rfl (Or.inl rfl))) (fun _ _ _ _ _ => pts_nil) (fun _ _ _ _ _ => (pe_tup (pa_cons (pv 6) (pa_cons (pe_op op_add (pv 6) pe_int) pa_nil))))) (pe_ifExp (PW.pt (pw_and (pt_cmpR op_eq (pv 3) pe_int (nomark _)) (pw_and1 (pt_cmpR op_gt (pv 2) pe_int (nomark _))))) (pe_lst (pa_cons (pe_tup (pa_cons (pe_op op_sub (pv 2) pe_int) (pa_cons pe_int pa_nil))) pa_nil)) (pe_lst pa_nil))))) pss_nil)
  (pss_one (ps_ret (pe_tup (pa_cons (pv 2) (pa_cons (pe_callTy call_tupL rfl T.tuple bt_tuple (pa_cons (pe_callB (cr_sortedT rfl) rfl T.sorted bt_sorted (pa_cons (pe_callTy (cr_setOfT rfl hr.units) rfl T.set bt_set (pa_cons (pv 5) pa_nil)) pa_nil)) pa_nil)) pa_nil))))))))), ?_⟩
    refine ⟨_, rfl, _, rfl, r, a, ns, 4, rfl, row, sc, by decide, by decide, fun x H1 b1 r1 hx => ?_⟩
    refine ⟨_, _, rfl, rfl, ?_⟩
    refine ⟨_, rfl, r, a, ns, 6, rfl, r1, sc.eb b1, by decide, by decide, fun wy H2 b2 r2 hy => ?_⟩
    refine ⟨_, _, rfl, ?_⟩
    obtain ⟨n, hn⟩ : ∃ n : Nat, n = x + 1 := ⟨_, rfl⟩
    have en : (fun i j : Int => V.int (i + j)) 1 (x : Int) = V.int (n : Int) := by
      show V.int (1 + (x : Int)) = _
      rw [hn, Int.natCast_add, Int.add_comm]
      rfl
    rw [en]
    have b2' := b1.trans b2
    refine ⟨_, rfl, by show 3 ≤ sizeLine; decide, fun l3 hl3 => ?_⟩
    have ne3 : l3 ≠ r := fun z => r2.ne (z ▸ hl3)
    refine ⟨r, a, l3, ns, _, rfl, r2.ex (Ex.new hl3), sc.eb (b2'.trans (Eb.of (Ex.new hl3))), ne3, upd_same, by show 1 ≤ 3; decide, by show 3 ≤ 100000; decide, fun v H3 b3 r3 hv => ?_⟩
    obtain ⟨th, rfl, t1, t9⟩ : ∃ th : Nat, v = .int (th : Int) ∧ 1 ≤ th ∧ th ≤ 5 := by
      simp only [List.mem_cons, List.not_mem_nil, or_false] at hv
      rcases hv with rfl | rfl | rfl
      · exact ⟨2, rfl, by decide, by decide⟩
      · exact ⟨3, rfl, by decide, by decide⟩
      · exact ⟨5, rfl, by decide, by decide⟩
    refine ⟨Nat.zero_le _, fun la hla => ⟨_, _, rfl, ?_⟩⟩
    have b3' : Eb r H H3 := (b2'.trans (Eb.of (Ex.new hl3))).trans b3
    have nela : la ≠ r := fun z => r3.ne (z ▸ hla)
    refine ⟨_, rfl, (n : Int), rfl, by omega, by omega, ?_⟩
    have toN : ((n : Int)).toNat = n := by omega
    rw [toN]
    refine for_it (walk_range (lo := 0) (n := n)) (fun i σ H' => ∃ (arr : List Arw) (us : List V) (c e : Option V), σ = [some (.ref r), some (.int 4), some (.int (n : Int)), some (.int (wy : Int)), some (.int (th : Int)), some (.ref la), c, e] ∧ Eb r H3 H' ∧ RowS r a H' ∧ H' la = some (.lst us) ∧ All2 (IsA H') us arr ∧ (∀ x ∈ arr, x.1 < n ∧ x.2 < n ∧ x.1 ≠ x.2) ∧ arr.length ≤ i * n)
      ⟨[], [], none, none, rfl, Eb.mut (Eb.refl r H3) hla, r3.put nela, upd_same, .nil, fun _ h => (nomatch h), Nat.zero_le _⟩ (fun _ _ _ _ _ => trivial) ?_ ?_
    · rintro i x σ _ H4 hi ⟨arr, us, c, e, rfl, b4, r4, h4, al4, v4, l4⟩ hy
      obtain ⟨rfl, rfl⟩ := yrange hy
      refine ⟨_, rfl, (n : Int), rfl, by omega, by omega, ?_⟩
      rw [toN]
      refine for_it (walk_range (lo := 0) (n := n)) (fun j σ H' => ∃ (arr : List Arw) (us : List V) (e : Option V), σ = [some (.ref r), some (.int 4), some (.int (n : Int)), some (.int (wy : Int)), some (.int (th : Int)), some (.ref la), some (.int (i : Int)), e] ∧ Eb r H3 H' ∧ RowS r a H' ∧ H' la = some (.lst us) ∧ All2 (IsA H') us arr ∧ (∀ x ∈ arr, x.1 < n ∧ x.2 < n ∧ x.1 ≠ x.2) ∧ arr.length ≤ i * n + j)
        ⟨arr, us, e, rfl, b4, r4, h4, al4, v4, l4⟩ (fun _ _ _ _ _ => trivial) ?_ ?_
      · rintro j x σ _ H5 hj ⟨arr, us, e, rfl, b5, r5, h5, al5, v5, l5⟩ hy
        obtain ⟨rfl, rfl⟩ := yrange hy
        have inn : i * n ≤ 12 := by
          have h1 : i ≤ 3 := by omega
          have h2 : n ≤ 4 := by omega
          exact Nat.mul_le_mul h1 h2
        have skip : ∀ H6, Eb r H5 H6 → RowS r a H6 → ∃ (arr : List Arw) (us : List V) (e : Option V), [some (V.ref r), some (V.int 4), some (V.int (n : Int)), some (V.int (wy : Int)), some (V.int (th : Int)), some (V.ref la), some (V.int (i : Int)), some (V.int (j : Int))] = [some (V.ref r), some (V.int 4), some (V.int (n : Int)), some (V.int (wy : Int)), some (V.int (th : Int)), some (V.ref la), some (V.int (i : Int)), e] ∧ Eb r H3 H6 ∧ RowS r a H6 ∧ H6 la = some (.lst us) ∧ All2 (IsA H6) us arr ∧ (∀ x ∈ arr, x.1 < n ∧ x.2 < n ∧ x.1 ≠ x.2) ∧ arr.length ≤ i * n + (j + 1) :=
          fun H6 b6 r6 => ⟨arr, us, _, rfl, b5.trans b6, r6, b6 _ _ nela h5, Paired.mapP al5 fun _ _ h => IsT.tm h (b6.tm r5), v5, by omega⟩
        have app : ∀ H6, i ≠ j → Eb r H5 H6 → RowS r a H6 → ∀ t, H6 t = none → ∃ (arr : List Arw) (us' : List V) (e : Option V), [some (V.ref r), some (V.int 4), some (V.int (n : Int)), some (V.int (wy : Int)), some (V.int (th : Int)), some (V.ref la), some (V.int (i : Int)), some (V.int (j : Int))] = [some (V.ref r), some (V.int 4), some (V.int (n : Int)), some (V.int (wy : Int)), some (V.int (th : Int)), some (V.ref la), some (V.int (i : Int)), e] ∧ Eb r H3 (upd (upd H6 t (.tup [.int (i : Int), .int (j : Int)])) la (.lst (us ++ [.ref t]))) ∧ RowS r a (upd (upd H6 t (.tup [.int (i : Int), .int (j : Int)])) la (.lst (us ++ [.ref t]))) ∧ (upd (upd H6 t (.tup [.int (i : Int), .int (j : Int)])) la (.lst (us ++ [.ref t]))) la = some (.lst us') ∧ All2 (IsA (upd (upd H6 t (.tup [.int (i : Int), .int (j : Int)])) la (.lst (us ++ [.ref t])))) us' arr ∧ (∀ x ∈ arr, x.1 < n ∧ x.2 < n ∧ x.1 ≠ x.2) ∧ arr.length ≤ i * n + (j + 1) := by
          intro H6 nij b6 r6 t ht
          have h6 := b6 _ _ nela h5
          have h7 : (upd H6 t (.tup [.int (i : Int), .int (j : Int)])) la = some (.lst us) := (Ex.new ht) _ _ h6
          have tm : Tm H5 (upd (upd H6 t (.tup [.int (i : Int), .int (j : Int)])) la (.lst (us ++ [.ref t]))) := ((b6.tm r5).trans (Tm.of (Ex.new ht))).trans (Tm.lst h7)
          refine ⟨arr ++ [(i, j)], us ++ [.ref t], _, rfl, Eb.mut ((b5.trans b6).trans (Eb.of (Ex.new ht))) hla, (r6.ex (Ex.new ht)).put nela, upd_same, ?_, fun x hx => ?_, by rw [List.length_append, List.length_singleton]; omega⟩
          · refine all2_snoc (Paired.mapP al5 fun _ _ h => IsT.tm h tm) ?_
            exact IsT.tm (IsT.mk upd_same) (Tm.lst h7)
          · rcases List.mem_append.mp hx with hx | hx
            · exact v5 x hx
            · rw [List.mem_singleton.mp hx]
              exact ⟨hi, hj, nij⟩
        have usl : us.length < sizeLine := by
          rw [Paired.length al5]
          exact sz4096' (by omega)
        refine ⟨_, rfl, _, rfl, rfl, _, rfl, ?_⟩
        by_cases c0 : i = j
        · rw [decide_eq_true (show V.int (i : Int) = V.int (j : Int) by rw [c0])]
          refine iteF ?_
          exact iteF (skip H5 (Eb.refl r H5) r5)
        · rw [decide_eq_false (show ¬ V.int (i : Int) = V.int (j : Int) from fun z => c0 (by have := V.int.inj z; omega))]
          refine iteT ?_
          refine ⟨_, rfl, _, _, rfl, rfl, _, rfl, ?_⟩
          have rest3 : wy ≤ 5 := by omega
          by_cases c1 : wy < 3
          · rw [decide_eq_true (show (wy : Int) < 3 by omega)]
            refine iteT ?_
            refine ⟨_, rfl, _, rfl, r, a, ns, th, rfl, r5, sc.eb (b3'.trans b5), t1, by omega, fun x H6 b6 r6 hx6 => ?_⟩
            refine ⟨rfl, _, rfl, ?_⟩
            by_cases c2 : x = 0
            · rw [decide_eq_true (show V.int (x : Int) = V.int 0 by rw [c2]; rfl)]
              refine iteT ?_
              refine iteT ?_
              have h6 := b6 _ _ nela h5
              exact ⟨_, rfl, .inl ⟨rfl, _, SqL.of h6⟩, _, rfl, _, rfl, by show 2 ≤ sizeLine; decide, fun t ht => ⟨la, us, .ref t, rfl, rfl, (Ex.new ht) _ _ h6, usl, app H6 c0 b6 r6 t ht⟩⟩
            · rw [decide_eq_false (show ¬ V.int (x : Int) = V.int 0 from fun z => c2 (by have := V.int.inj z; omega))]
              refine iteF ?_
              refine ⟨_, rfl, rfl, _, rfl, ?_⟩
              rw [decide_eq_false (show ¬ V.int (wy : Int) = V.int 3 from fun z => by have := V.int.inj z; omega)]
              refine iteF ?_
              exact iteF (skip H6 b6 r6)
          · rw [decide_eq_false (show ¬ (wy : Int) < 3 by omega)]
            refine iteF ?_
            refine iteF ?_
            refine ⟨_, rfl, rfl, _, rfl, ?_⟩
            by_cases c2 : wy = 3
            · rw [decide_eq_true (show V.int (wy : Int) = V.int 3 by rw [c2]; rfl)]
              refine iteT ?_
              refine ⟨_, rfl, _, rfl, _, _, rfl, rfl, _, rfl, ?_⟩
              refine ite2 (fun c3 => ?_) (fun c3 => ?_)
              · refine ⟨_, rfl, r, a, ns, 2, rfl, r5, sc.eb (b3'.trans b5), by decide, by decide, fun x H6 b6 r6 hx6 => ?_⟩
                refine ⟨rfl, _, rfl, ?_⟩
                refine ite2 (fun c4 => ?_) (fun c4 => ?_)
                · have h6 := b6 _ _ nela h5
                  exact ⟨_, rfl, .inl ⟨rfl, _, SqL.of h6⟩, _, rfl, _, rfl, by show 2 ≤ sizeLine; decide, fun t ht => ⟨la, us, .ref t, rfl, rfl, (Ex.new ht) _ _ h6, usl, app H6 c0 b6 r6 t ht⟩⟩
                · exact skip H6 b6 r6
              · exact iteF (skip H5 (Eb.refl r H5) r5)
            · rw [decide_eq_false (show ¬ V.int (wy : Int) = V.int 3 from fun z => c2 (by have := V.int.inj z; omega))]
              refine iteF ?_
              exact iteF (skip H5 (Eb.refl r H5) r5)
      · rintro σ H5 ⟨arr, us, e, rfl, b5, r5, h5, al5, v5, l5⟩
        refine ⟨arr, us, _, e, rfl, b5, r5, h5, al5, v5, ?_⟩
        rw [Nat.succ_mul]
        exact l5
    · rintro σ H4 ⟨arr, us, c, e, rfl, b4, r4, h4, al4, v4, l4⟩
      have nn : n * n ≤ 16 := Nat.mul_le_mul (show n ≤ 4 by omega) (show n ≤ 4 by omega)
      refine ⟨_, rfl, _, _, rfl, rfl, _, rfl, ?_⟩
      refine ite2 (fun c0 => ?_) (fun c0 => ?_)
      · refine ⟨_, rfl, _, _, rfl, rfl, _, rfl, by omega, by omega, fun D hD => ?_⟩
        have toN1 : ((n : Int) - 1).toNat = n - 1 := by omega
        rw [toN1]
        refine comp_it (walk_range (lo := 0) (n := n - 1)) hD (fun i y H => IsA H y (i, i + 1)) (fun _ => False) (by omega) (fun _ _ => trivial) yfn_ex (fun i y H H' acc ha e h => IsT.tm h (Tm.ofEb e ha (fun _ z => nomatch z))) ?_ ?_
        · rintro i x _ H5 hi e5 _ hy Q1 Q2 k1 k2
          obtain ⟨rfl, rfl⟩ := yrange hy
          refine ⟨rfl, ?_⟩
          refine iteT (B := Q2 H5) ⟨_, rfl, _, rfl, _, _, rfl, rfl, by show 2 ≤ sizeLine; decide, fun t ht => k1 _ _ (Ex.new ht) (IsT.mk ?_)⟩
          rw [upd_same]
          show some (HO.tup [V.int (i : Int), V.int ((i : Int) + 1)]) = some (HO.tup [V.int (i : Int), V.int ((i + 1 : Nat) : Int)])
          rw [Int.natCast_add]
          rfl
        · intro os H5 e5 hos outs
          obtain ⟨len, hl⟩ := outs.all
          have al5 : All2 (IsA H5) os ((List.range (n - 1)).map fun i => (i, i + 1)) := all2_of (by rw [List.length_map, List.length_range, len]) fun i x m hx hm => by
            rw [List.getElem?_map] at hm
            cases er : (List.range (n - 1))[i]? with
            | none => rw [er] at hm; cases hm
            | some z =>
              rw [er] at hm
              cases hm
              have ez : z = i := by
                obtain ⟨h1, h2⟩ := List.getElem?_eq_some_iff.mp er
                rw [List.getElem_range] at h2
                exact h2.symm
              rw [ez]
              exact hl i x hx
          have v5 : ∀ a ∈ (List.range (n - 1)).map (fun i => (i, i + 1)), a.1 < n ∧ a.2 < n ∧ a.1 ≠ a.2 := fun a ha => by
            obtain ⟨i, hi, rfl⟩ := List.mem_map.mp ha
            have := List.mem_range.mp hi
            refine ⟨?_, ?_, ?_⟩
            · show i < n; omega
            · show i + 1 < n; omega
            · show i ≠ i + 1; omega
          have l5 : ((List.range (n - 1)).map fun i => (i, i + 1)).length ≤ 3 := by rw [List.length_map, List.length_range]; omega
          have osl : os.length ≤ 3 := by rw [Paired.length al5]; exact l5
          have b5 := (b3'.trans b4).trans (Eb.of e5)
          have r5 := r4.ex e5
          refine ⟨_, rfl, rfl, _, rfl, ?_⟩
          refine ite2 (fun c1 => ?_) (fun c1 => ?_)
          · refine ⟨_, rfl, _, _, rfl, rfl, _, rfl, ?_⟩
            refine ite2 (fun c2 => ?_) (fun c2 => ?_)
            · have n1 : 1 < n := by have := of_decide_eq_true c2; omega
              refine ⟨_, rfl, _, _, rfl, rfl, by show 2 ≤ sizeLine; decide, fun t ht => ?_⟩
              refine ⟨by show 1 ≤ sizeLine; decide, fun lz hlz => ?_⟩
              have e6 := (Ex.new (o := .tup [V.int ((n : Int) - 1), V.int 0]) ht).trans (Ex.new (o := .lst [V.ref t]) hlz)
              refine ⟨D, lz, os, [V.ref t], rfl, rfl, e6 _ _ hos, upd_same, by show os.length + 1 ≤ sizeLine; exact Nat.le_of_lt (sz4096' (by omega)), fun lb hlb => ?_⟩
              have e7 := e6.trans (Ex.new (o := .lst (os ++ [V.ref t])) hlb)
              have al7 : All2 (IsA (upd (upd (upd H5 t (.tup [V.int ((n : Int) - 1), V.int 0])) lz (.lst [V.ref t])) lb (.lst (os ++ [V.ref t])))) (os ++ [V.ref t]) ((List.range (n - 1)).map (fun i => (i, i + 1)) ++ [(n - 1, 0)]) := by
                refine all2_snoc (Paired.mapP al5 fun _ _ h => IsT.ex h e7) ?_
                refine IsT.ex ?_ ((Ex.new (o := .lst [V.ref t]) hlz).trans (Ex.new (o := .lst (os ++ [V.ref t])) hlb))
                refine IsT.mk ?_
                rw [upd_same]
                show some (HO.tup [V.int ((n : Int) - 1), V.int 0]) = some (HO.tup [V.int ((n - 1 : Nat) : Int), V.int ((0 : Nat) : Int)])
                rw [Int.natCast_sub (by omega)]
                rfl
              have v7 : ∀ a ∈ (List.range (n - 1)).map (fun i => (i, i + 1)) ++ [(n - 1, 0)], a.1 < n ∧ a.2 < n ∧ a.1 ≠ a.2 := fun a ha => by
                rcases List.mem_append.mp ha with ha | ha
                · exact v5 a ha
                · rw [List.mem_singleton.mp ha]
                  refine ⟨?_, ?_, ?_⟩
                  · show n - 1 < n; omega
                  · show 0 < n; omega
                  · show n - 1 ≠ 0; omega
              obtain ⟨ks, k1, k2, k3, k4, k5⟩ := web_fin (by omega) al7 v7 (by rw [List.length_append]; show _ + 1 ≤ 17; omega)
              refine ⟨_, rfl, _, rfl, lb, ks, rfl, by rw [← k1]; exact SqL.of upd_same, fun p hp => SqT.of (k2 p hp), k3, fun sa L hsa hL1 hL2 => ?_⟩
              refine ⟨sa, L, 2, 64, rfl, upd_same, fun p hp => SqT.of ((Ex.new hsa) _ _ (k2 p (hL1 p hp))), by decide, fun p hp => k4 p (hL1 p hp), fun L' pa perm nd lt64 srt hpa => ?_⟩
              obtain ⟨as, W, asc, al'⟩ := k5 L' (fun p hp => hL1 p (perm.mem_iff.mp hp)) nd srt
              refine ⟨pa, _, rfl, SqL.of upd_same, fun tp htp => ?_⟩
              refine ⟨by show 2 ≤ sizeLine; decide, fun tw htw => ?_⟩
              have exf := (((Ex.new hsa).trans (Ex.new hpa)).trans (Ex.new htp)).trans (Ex.new (o := .tup [V.int (n : Int), V.ref tp]) htw)
              exact q _ n as _ ((b5.trans (Eb.of e7)).trans (Eb.of exf)) ((r5.ex e7).ex exf) ⟨.ref tp, IsT.mk upd_same, L'.map (fun q => V.ref q.1), IsT.mk ((Ex.new htw) _ _ upd_same), al' _ exf⟩ (by omega) (by omega) W asc
            · refine ⟨Nat.zero_le _, fun lz hlz => ?_⟩
              have e6 := Ex.new (o := .lst []) hlz
              refine ⟨D, lz, os, [], rfl, rfl, e6 _ _ hos, upd_same, by show os.length + 0 ≤ sizeLine; exact Nat.le_of_lt (sz4096' (by omega)), fun lb hlb => ?_⟩
              have e7 := e6.trans (Ex.new (o := .lst (os ++ [])) hlb)
              have al7 : All2 (IsA (upd (upd H5 lz (.lst [])) lb (.lst (os ++ [])))) (os ++ []) ((List.range (n - 1)).map (fun i => (i, i + 1))) := by
                rw [List.append_nil] at e7 ⊢
                exact Paired.mapP al5 fun _ _ h => IsT.ex h e7
              obtain ⟨ks, k1, k2, k3, k4, k5⟩ := web_fin (by omega) al7 v5 (by omega)
              refine ⟨_, rfl, _, rfl, lb, ks, rfl, by rw [← k1]; exact SqL.of upd_same, fun p hp => SqT.of (k2 p hp), k3, fun sa L hsa hL1 hL2 => ?_⟩
              refine ⟨sa, L, 2, 64, rfl, upd_same, fun p hp => SqT.of ((Ex.new hsa) _ _ (k2 p (hL1 p hp))), by decide, fun p hp => k4 p (hL1 p hp), fun L' pa perm nd lt64 srt hpa => ?_⟩
              obtain ⟨as, W, asc, al'⟩ := k5 L' (fun p hp => hL1 p (perm.mem_iff.mp hp)) nd srt
              refine ⟨pa, _, rfl, SqL.of upd_same, fun tp htp => ?_⟩
              refine ⟨by show 2 ≤ sizeLine; decide, fun tw htw => ?_⟩
              have exf := (((Ex.new hsa).trans (Ex.new hpa)).trans (Ex.new htp)).trans (Ex.new (o := .tup [V.int (n : Int), V.ref tp]) htw)
              exact q _ n as _ ((b5.trans (Eb.of e7)).trans (Eb.of exf)) ((r5.ex e7).ex exf) ⟨.ref tp, IsT.mk upd_same, L'.map (fun q => V.ref q.1), IsT.mk ((Ex.new htw) _ _ upd_same), al' _ exf⟩ (by omega) (by omega) W asc
          · refine iteF ?_
            refine ⟨Nat.zero_le _, fun lz hlz => ?_⟩
            have e6 := Ex.new (o := .lst []) hlz
            refine ⟨D, lz, os, [], rfl, rfl, e6 _ _ hos, upd_same, by show os.length + 0 ≤ sizeLine; exact Nat.le_of_lt (sz4096' (by omega)), fun lb hlb => ?_⟩
            have e7 := e6.trans (Ex.new (o := .lst (os ++ [])) hlb)
            have al7 : All2 (IsA (upd (upd H5 lz (.lst [])) lb (.lst (os ++ [])))) (os ++ []) ((List.range (n - 1)).map (fun i => (i, i + 1))) := by
              rw [List.append_nil] at e7 ⊢
              exact Paired.mapP al5 fun _ _ h => IsT.ex h e7
            obtain ⟨ks, k1, k2, k3, k4, k5⟩ := web_fin (by omega) al7 v5 (by omega)
            refine ⟨_, rfl, _, rfl, lb, ks, rfl, by rw [← k1]; exact SqL.of upd_same, fun p hp => SqT.of (k2 p hp), k3, fun sa L hsa hL1 hL2 => ?_⟩
            refine ⟨sa, L, 2, 64, rfl, upd_same, fun p hp => SqT.of ((Ex.new hsa) _ _ (k2 p (hL1 p hp))), by decide, fun p hp => k4 p (hL1 p hp), fun L' pa perm nd lt64 srt hpa => ?_⟩
            obtain ⟨as, W, asc, al'⟩ := k5 L' (fun p hp => hL1 p (perm.mem_iff.mp hp)) nd srt
            refine ⟨pa, _, rfl, SqL.of upd_same, fun tp htp => ?_⟩
            refine ⟨by show 2 ≤ sizeLine; decide, fun tw htw => ?_⟩
            have exf := (((Ex.new hsa).trans (Ex.new hpa)).trans (Ex.new htp)).trans (Ex.new (o := .tup [V.int (n : Int), V.ref tp]) htw)
            exact q _ n as _ ((b5.trans (Eb.of e7)).trans (Eb.of exf)) ((r5.ex e7).ex exf) ⟨.ref tp, IsT.mk upd_same, L'.map (fun q => V.ref q.1), IsT.mk ((Ex.new htw) _ _ upd_same), al' _ exf⟩ (by omega) (by omega) W asc
      · skip
        obtain ⟨ks, k1, k2, k3, k4, k5⟩ := web_fin (by omega) al4 v4 (by omega)
        refine ⟨_, rfl, _, rfl, la, ks, rfl, by rw [← k1]; exact SqL.of h4, fun p hp => SqT.of (k2 p hp), k3, fun sa L hsa hL1 hL2 => ?_⟩
        refine ⟨sa, L, 2, 64, rfl, upd_same, fun p hp => SqT.of ((Ex.new hsa) _ _ (k2 p (hL1 p hp))), by decide, fun p hp => k4 p (hL1 p hp), fun L' pa perm nd lt64 srt hpa => ?_⟩
        obtain ⟨as, W, asc, al'⟩ := k5 L' (fun p hp => hL1 p (perm.mem_iff.mp hp)) nd srt
        refine ⟨pa, _, rfl, SqL.of upd_same, fun tp htp => ?_⟩
        refine ⟨by show 2 ≤ sizeLine; decide, fun tw htw => ?_⟩
        have exf := (((Ex.new hsa).trans (Ex.new hpa)).trans (Ex.new htp)).trans (Ex.new (o := .tup [V.int (n : Int), V.ref tp]) htw)
        exact q _ n as _ ((b3'.trans b4).trans (Eb.of exf)) (r4.ex exf) ⟨.ref tp, IsT.mk upd_same, L'.map (fun q => V.ref q.1), IsT.mk ((Ex.new htw) _ _ upd_same), al' _ exf⟩ (by omega) (by omega) W asc
theorem vd_of {n k : Nat} : ∀ {os : List V}, os.length = n → (∀ y ∈ os, ∃ x : Nat, y = .int (x : Int) ∧ x < k) → ∃ d, os = iv d ∧ VD n k d := by
  intro os
  induction os generalizing n with
  | nil => intro h _; exact ⟨[], rfl, ⟨h, fun _ z => (nomatch z)⟩⟩
  | cons y os ih =>
    intro h hh
    obtain ⟨x, rfl, hx⟩ := hh y List.mem_cons_self
    obtain ⟨d, rfl, vd⟩ := ih (n := os.length) rfl (fun z hz => hh z (List.mem_cons_of_mem _ hz))
    refine ⟨x :: d, rfl, ⟨by rw [← h]; show d.length + 1 = (iv d).length + 1; rw [iv_len], fun z hz => ?_⟩⟩
    rcases List.mem_cons.mp hz with rfl | hz
    · exact hx
    · exact vd.lt z hz
theorem ok_law_dial (F : Fun K "_law_dial" "_law_dial" s_law_dial f fd) (T : Bi mg) (C_law_taken : Cal P w K mg base 1 "_law_taken" ["_law_row", "_law_many"] (spTaken K)) (C_law_pick : Cal P w K mg base 2 "_law_pick" ["_law_row", "_law_things"] (spPick K)) : FnOk P w K mg base CX0 3 f fd ["_law_row", "_law_web_here", "_law_hours"] (spDial K) := by
  refine F.ok sc_law_dial (fun vs H Q E h => ?_) (fun cdv A outer s H vs Q E hr h => ?_)
  · obtain ⟨_, _, _, _, _, _, _, rfl, _⟩ := h
    rfl
  · obtain ⟨r, a, ns, v, n, k, as, rfl, row, sc, hw, n1, n4, k2', k24, q⟩ := h
    obtain ⟨zz, hv, hz⟩ := id hw
    refine ⟨_, (pss_cons (ps_set (i := 3) sc_law_dial.nd rfl (Or.inr rfl) (pe_cal C_law_pick hr (by first | decide | exact Nat.le_refl _) rfl (pa_cons (pv 0) (pa_cons (pe_lc (own := [("_law_one", 4)]) (g := gName 4) rfl sc_law_dial.nd (pi_range2 rfl T.range (pa_cons pe_int (pa_cons (pe_op op_add (pv 2) pe_int) pa_nil))) (blkOk_by (own := [("_law_one", 4)]) (N := N_law_dial) (sc := defScope s_law_dial) (by decide +kernel)) (fun _ _ _ _ _ => (pg_name (i := 4) sc_law_dial.nd rfl (Or.inl rfl))) (fun _ _ _ _ _ => (pts_one (pt_cmpR op_eq (pe_op op_mod (pe_callTy call_intI rfl T.int bt_int (pa_cons (pv 2) pa_nil)) (pv 4)) pe_int (nomark _)))) (fun _ _ _ _ _ => (pv 4))) pa_nil))))
  (pss_cons (ps_set (i := 3) sc_law_dial.nd rfl (Or.inr rfl) (pe_ifExp (pt_cmpR op_eq (pe_cal C_law_taken hr (by first | decide | exact Nat.le_refl _) rfl (pa_cons (pv 0) (pa_cons pe_int pa_nil))) pe_int (nomark _)) (pv 3) pe_int))
  (pss_one (ps_ret (pe_callTy call_tupL rfl T.tuple bt_tuple (pa_cons (pe_lc (own := [("_law_k", 5)]) (g := gName 5) rfl sc_law_dial.nd (pi_range1 rfl T.range (pa_cons (pe_ix ix_t (pv 1) pe_int (fun _ _ => rfl)) pa_nil)) (blkOk_by (own := [("_law_k", 5)]) (N := N_law_dial) (sc := defScope s_law_dial) (by decide +kernel)) (fun _ _ _ _ _ => (pg_name (i := 5) sc_law_dial.nd rfl (Or.inl rfl))) (fun _ _ _ _ _ => pts_nil) (fun _ _ _ _ _ => (pe_op op_mod (pe_callTy call_intI rfl T.int bt_int (pa_cons (pe_op op_mul (pv 3) (pe_cal C_law_taken hr (by first | decide | exact Nat.le_refl _) rfl (pa_cons (pv 0) (pa_cons (pv 2) pa_nil)))) pa_nil)) (pv 2)))) pa_nil)))))), ?_⟩
    refine ⟨_, rfl, _, rfl, _, _, rfl, rfl, 1, (k : Int) + 1, rfl, ⟨by omega, by omega, by omega, by omega⟩, fun D hD => ?_⟩
    have toK : ((k : Int) + 1 - 1).toNat = k := by omega
    rw [toK]
    refine comp_it (walk_range (lo := 1) (n := k)) hD (fun i y _ => y = .int ((i + 1 : Nat) : Int) ∧ decide (k % (i + 1) = 0) = true) (fun i => decide (k % (i + 1) = 0) = false) (by omega) (fun _ _ => trivial) yfn_ex (fun _ _ _ _ _ _ _ h => h) ?_ ?_
    · rintro i x _ H2 hi e2 _ ⟨rfl, rfl⟩ Q1 Q2 k1 k2
      refine ⟨rfl, ?_⟩
      have ei : (1 : Int) + (i : Int) = ((i + 1 : Nat) : Int) := by omega
      refine ⟨_, rfl, _, rfl, _, rfl, _, _, rfl, rfl, (by show (0 : Int) < 1 + (i : Int); omega), rfl, _, rfl, ?_⟩
      by_cases c : k % (i + 1) = 0
      · rw [decide_eq_true (show V.int ((k : Int) % (1 + (i : Int))) = V.int 0 by rw [ei, ← Int.natCast_emod, c]; rfl)]
        exact iteT ⟨_, rfl, k1 _ _ (Same.refl _) ⟨by rw [← ei], decide_eq_true c⟩⟩
      · rw [decide_eq_false (show ¬ V.int ((k : Int) % (1 + (i : Int))) = V.int 0 from fun z => c (by
          have z' := V.int.inj z
          rw [ei, ← Int.natCast_emod] at z'
          omega))]
        exact iteF (k2 _ (Same.refl _) (decide_eq_false c))
    · intro os H1 e1 hos outs
      have eo := outs.filter (f := fun i => .int ((i + 1 : Nat) : Int)) (fun i y h => h) (fun i h => h)
      have row1 := row.ex e1
      have neD : D ≠ r := fun z => row.ne (z ▸ hD)
      have m1 : V.int ((0 + 1 : Nat) : Int) ∈ os := by
        rw [eo]
        exact List.mem_map.mpr ⟨0, List.mem_filter.mpr ⟨List.mem_range.mpr (by omega), decide_eq_true (Nat.mod_one k)⟩, rfl⟩
      have ol : os.length ≤ 24 := by
        have := outs.len
        omega
      refine ⟨r, a, D, ns, os, rfl, row1, sc.eb (Eb.of e1), neD, hos, List.length_pos_of_mem m1, by omega, fun pv H2 b2 r2 hpv => ?_⟩
      obtain ⟨pt, rfl, hpt⟩ : ∃ pt : Nat, pv = .int (pt : Int) ∧ pt ≤ 24 := by
        rw [eo] at hpv
        obtain ⟨i, hi, rfl⟩ := List.mem_map.mp hpv
        have := List.mem_range.mp (List.mem_filter.mp hi).1
        exact ⟨i + 1, rfl, by omega⟩
      have b2' := (Eb.of e1).trans b2
      refine ⟨_, rfl, r, a, ns, 2, rfl, r2, sc.eb b2', by decide, by decide, fun x H3 b3x r3 hx => ?_⟩
      have b3 := b2'.trans b3x
      have tmX : Tm H H3 := b3.tm row
      refine ⟨rfl, _, rfl, ?_⟩
      refine ite2 (fun c => ?_) (fun c => ?_)
      · refine ⟨_, rfl, ?_⟩
        refine ⟨_, rfl, _, _, _, hv.tm tmX, rfl, atI_nat (j := 0) rfl, (n : Int), rfl, by omega, by omega, fun D2 hD2 => ?_⟩
        have toN : ((n : Int)).toNat = n := by omega
        rw [toN]
        have neD : r ≠ D2 := fun z => r3.ne (z ▸ hD2)
        refine comp_row (walk_range (lo := 0) (n := n)) hD2 (RowS r a) (fun i y => ∃ x : Nat, y = .int (x : Int) ∧ x < k) (fun _ => False) (by omega) r3.ne r3 (fun H H' hh ⟨i1, i2, i3, g, gg⟩ => ⟨i1, i2, i3, hh _ _ neD g, gg⟩) (fun _ _ _ => trivial) yfn_ex ?_ ?_
        · rintro i x H5 H6 hi e5 r5 hy Q1 Q2 k1 k2
          obtain ⟨rfl, rfl⟩ := yrange hy
          refine ⟨rfl, ?_⟩
          refine iteT (B := Q2 H6) ⟨_, rfl, _, rfl, _, rfl, r, a, ns, k, rfl, r5, sc.eb (b3.trans e5), by omega, by omega, fun x H7 b7 r7 hx => ?_⟩
          refine ⟨_, _, rfl, rfl, .inl ⟨by omega, by omega⟩, _, rfl, _, rfl, _, _, rfl, rfl, (by show (0 : Int) < (k : Int); omega), k1 _ _ b7 r7 ⟨pt * x % k, ?_, Nat.mod_lt _ (by omega)⟩⟩
          rw [Int.natCast_emod, Int.natCast_mul]
        · intro os H5 b5 r5 hos outs
          obtain ⟨len, hl⟩ := outs.all
          obtain ⟨d, rfl, vd⟩ := vd_of (n := n) (k := k) len fun y hy => by
            obtain ⟨i, hi, e⟩ := List.getElem_of_mem hy
            exact hl i y (by rw [← e]; exact List.getElem?_eq_getElem hi)
          exact ⟨D2, _, rfl, SqL.of hos, fun l hl => q (.ref l) d _ ((b3.trans b5).trans (Eb.of (Ex.new hl))) (r5.ex (Ex.new hl)) (IsT.mk upd_same) vd⟩
      · skip
        refine ⟨_, rfl, _, _, _, hv.tm tmX, rfl, atI_nat (j := 0) rfl, (n : Int), rfl, by omega, by omega, fun D2 hD2 => ?_⟩
        have toN : ((n : Int)).toNat = n := by omega
        rw [toN]
        have neD : r ≠ D2 := fun z => r3.ne (z ▸ hD2)
        refine comp_row (walk_range (lo := 0) (n := n)) hD2 (RowS r a) (fun i y => ∃ x : Nat, y = .int (x : Int) ∧ x < k) (fun _ => False) (by omega) r3.ne r3 (fun H H' hh ⟨i1, i2, i3, g, gg⟩ => ⟨i1, i2, i3, hh _ _ neD g, gg⟩) (fun _ _ _ => trivial) yfn_ex ?_ ?_
        · rintro i x H5 H6 hi e5 r5 hy Q1 Q2 k1 k2
          obtain ⟨rfl, rfl⟩ := yrange hy
          refine ⟨rfl, ?_⟩
          refine iteT (B := Q2 H6) ⟨_, rfl, _, rfl, _, rfl, r, a, ns, k, rfl, r5, sc.eb (b3.trans e5), by omega, by omega, fun x H7 b7 r7 hx => ?_⟩
          refine ⟨_, _, rfl, rfl, .inl ⟨by omega, by omega⟩, _, rfl, _, rfl, _, _, rfl, rfl, (by show (0 : Int) < (k : Int); omega), k1 _ _ b7 r7 ⟨1 * x % k, ?_, Nat.mod_lt _ (by omega)⟩⟩
          rw [Int.natCast_emod, Int.natCast_mul]; rfl
        · intro os H5 b5 r5 hos outs
          obtain ⟨len, hl⟩ := outs.all
          obtain ⟨d, rfl, vd⟩ := vd_of (n := n) (k := k) len fun y hy => by
            obtain ⟨i, hi, e⟩ := List.getElem_of_mem hy
            exact hl i y (by rw [← e]; exact List.getElem?_eq_getElem hi)
          exact ⟨D2, _, rfl, SqL.of hos, fun l hl => q (.ref l) d _ ((b3.trans b5).trans (Eb.of (Ex.new hl))) (r5.ex (Ex.new hl)) (IsT.mk upd_same) vd⟩
theorem ok_law_small (F : Fun K "_law_small" "_law_small" s_law_small f fd) (T : Bi mg) (C_law_web : Cal P w K mg base 3 "_law_web" ["_law_row", "_law_most"] (spWeb K)) (C_law_taken : Cal P w K mg base 1 "_law_taken" ["_law_row", "_law_many"] (spTaken K)) (C_law_dial : Cal P w K mg base 3 "_law_dial" ["_law_row", "_law_web_here", "_law_hours"] (spDial K)) : FnOk P w K mg base CX0 4 f fd ["_law_row"] (spSmall K) := by
  refine F.ok sc_law_small (fun vs H Q E h => ?_) (fun cdv A outer s H vs Q E hr h => ?_)
  · obtain ⟨_, _, _, rfl, _⟩ := h
    rfl
  · obtain ⟨r, a, ns, rfl, row, sc, q⟩ := h
    refine ⟨_, (pss_cons (ps_set (i := 1) sc_law_small.nd rfl (Or.inl rfl) (pe_cal C_law_web hr (by first | decide | exact Nat.le_refl _) rfl (pa_cons (pv 0) (pa_cons pe_int pa_nil))))
  (pss_cons (ps_set (i := 2) sc_law_small.nd rfl (Or.inl rfl) (pe_op op_add pe_int (pe_cal C_law_taken hr (by first | decide | exact Nat.le_refl _) rfl (pa_cons (pv 0) (pa_cons (pe_ix ix_l (pe_lst (pa_cons pe_int (pa_cons pe_int (pa_cons pe_int (pa_cons pe_int pa_nil))))) (pe_op op_sub (pe_ix ix_t (pv 1) pe_int (fun _ _ => rfl)) pe_int) (fun _ _ => rfl)) pa_nil)))))
  (pss_one (ps_ret (pe_tup (pa_cons (pv 1) (pa_cons (pv 2) (pa_cons (pe_cal C_law_dial hr (by first | decide | exact Nat.le_refl _) rfl (pa_cons (pv 0) (pa_cons (pv 1) (pa_cons (pv 2) pa_nil)))) pa_nil)))))))), ?_⟩
    refine ⟨_, rfl, r, a, ns, rfl, row, sc, fun v n as H1 b1 r1 hw n1 n4 W asc => ?_⟩
    obtain ⟨zz, hv, hz⟩ := id hw
    refine ⟨_, rfl, by show 4 ≤ sizeLine; decide, fun l hl => ?_⟩
    have ex1 := Ex.new (o := .lst [V.int 23, V.int 11, V.int 6, V.int 4]) hl
    obtain ⟨m, hm, m1, m23, hkn⟩ : ∃ m : Nat, atI [V.int 23, V.int 11, V.int 6, V.int 4] ((n : Int) - 1) = some (.int (m : Int)) ∧ 1 ≤ m ∧ m ≤ 23 ∧ (m + 1) ^ n ≤ 4096 := by
      have : n = 1 ∨ n = 2 ∨ n = 3 ∨ n = 4 := by omega
      rcases this with rfl | rfl | rfl | rfl
      · exact ⟨23, rfl, by decide, by decide, by decide⟩
      · exact ⟨11, rfl, by decide, by decide, by decide⟩
      · exact ⟨6, rfl, by decide, by decide, by decide⟩
      · exact ⟨4, rfl, by decide, by decide, by decide⟩
    refine ⟨_, rfl, _, _, _, hv.ex ex1, rfl, atI_nat (j := 0) rfl, _, _, rfl, rfl, l, _, _, _, rfl, rfl, upd_same, hm, r, a, ns, m, rfl, r1.ex ex1, sc.eb (b1.trans (Eb.of ex1)), m1, by omega, fun x H2 b2 r2 hx => ?_⟩
    refine ⟨_, _, rfl, rfl, ?_⟩
    obtain ⟨k, hk⟩ : ∃ k : Nat, k = 2 + x := ⟨_, rfl⟩
    have ek : (fun i j : Int => V.int (i + j)) 2 (x : Int) = V.int (k : Int) := by
      show V.int (2 + (x : Int)) = _
      rw [hk, Int.natCast_add]
      rfl
    rw [ek]
    have b2' := (b1.trans (Eb.of ex1)).trans b2
    have hw2 : IsWeb H2 v n as := hw.tm (((Eb.of ex1).trans b2).tm r1)
    refine ⟨_, rfl, _, rfl, _, rfl, _, rfl, _, rfl, r, a, ns, v, n, k, as, rfl, r2, sc.eb b2', hw2, n1, n4, by omega, by omega, fun u d H3 b3 r3 hu vd => ?_⟩
    refine ⟨by show 3 ≤ sizeLine; decide, fun t ht => ?_⟩
    have gw : GW n k as := ⟨n1, n4, W, asc, by omega, by omega, Nat.le_trans (Nat.pow_le_pow_left (show k ≤ m + 1 by omega) n) hkn⟩
    exact q _ v u n k as d _ ((b2'.trans b3).trans (Eb.of (Ex.new ht))) (r3.ex (Ex.new ht)) (IsT.mk upd_same) ((hw2.tm (b3.tm r2)).ex (Ex.new ht)) gw (hu.ex (Ex.new ht)) vd
end
end CK

/-! _law_alike -/
namespace CK
open PySem PySem.Spec PyProof.Rows L2 CA
def spNo : Sp := fun vs _ _ _ => vs.length = 2 ∧ False
def spAlike (R : Hp → V → V → Prop) : Sp := fun vs H Q _ => ∃ x y, vs = [x, y] ∧ R H x y ∧ ∀ H', Ex H H' → Q (.bl true) H'
def Rel0 (_ : Hp) (x y : V) : Prop := (x = .non ∧ y = .non) ∨ ∃ i : Int, x = .int i ∧ y = .int i
def RelT (R : Hp → V → V → Prop) (H : Hp) (x y : V) : Prop := ∃ xs ys, IsT H x xs ∧ IsT H y ys ∧ All2 (R H) xs ys ∧ xs.length ≤ 4096
theorem RelT.ex {R : Hp → V → V → Prop} (hR : ∀ H H' x y, Ex H H' → R H x y → R H' x y) : ∀ H H' x y, Ex H H' → RelT R H x y → RelT R H' x y := fun H H' x y e ⟨xs, ys, h1, h2, h3, h4⟩ => ⟨xs, ys, h1.ex e, h2.ex e, Paired.mapP h3 fun _ _ h => hR _ _ _ _ e h, h4⟩
theorem rel_word {H : Hp} {x y : V} {w : List Arw} (hx : IsW H x w) (hy : IsW H y w) (l : w.length ≤ 4096) : RelT (RelT Rel0) H x y := by
  obtain ⟨xs, h1, h2⟩ := hx
  obtain ⟨ys, h3, h4⟩ := hy
  have lx : xs.length = w.length := Paired.length h2
  have ly : ys.length = w.length := Paired.length h4
  refine ⟨xs, ys, h1, h3, ?_, by omega⟩
  refine all2_of (by omega) fun i a b ha hb => ?_
  obtain ⟨p, hp, hap⟩ := all2_get h2 ha
  obtain ⟨p', hp', hbp⟩ := all2_get h4 hb
  rw [hp] at hp'
  cases hp'
  exact ⟨_, _, hap, hbp, .cons (.inr ⟨_, rfl, rfl⟩) (.cons (.inr ⟨_, rfl, rfl⟩) .nil), by show 2 ≤ 4096; decide⟩
section
variable {P : Program} {w : World} {K : PySem.W.Frag} {mg : Str → Option Value} {base : Heap} {f : Addr} {fd : FuncData}
theorem no_ok {k : Nat} {x y : Str} : FnOk P w K mg base CX0 k f fd [x, y] spNo := ⟨fun vs H Q E h => h.2.elim, fun A outer s H args us vs Q E hr he hb hv hs => hs.2.elim⟩
theorem or_ok {k : Nat} {ps : List Str} {s1 s2 : Sp} (h1 : FnOk P w K mg base CX0 k f fd ps s1) (h2 : FnOk P w K mg base CX0 k f fd ps s2) : FnOk P w K mg base CX0 k f fd ps (fun vs H Q E => s1 vs H Q E ∨ s2 vs H Q E) :=
  ⟨fun vs H Q E h => h.elim (h1.len vs H Q E) (h2.len vs H Q E), fun A outer s H args us vs Q E hr he hb hv hs => hs.elim (h1.run A outer s H args us vs Q E hr he hb hv) (h2.run A outer s H args us vs Q E hr he hb hv)⟩
theorem ok_law_alike0 (F : Fun K "_law_alike" "_law_alike" s_law_alike f fd) (T : Bi mg) (C_law_alike : Cal P w K mg base 1 "_law_alike" ["_law_found", "_law_due"] spNo) : FnOk P w K mg base CX0 2 f fd ["_law_found", "_law_due"] (spAlike Rel0) := by
  refine F.ok sc_law_alike (fun vs H Q E h => ?_) (fun cdv A outer s H vs Q E hr h => ?_)
  · obtain ⟨_, _, rfl, _⟩ := h
    rfl
  · obtain ⟨x, y, rfl, hR, q⟩ := h
    refine ⟨_, (pss_cons (ps_if (pt_val (pe_callB call_is2 rfl T.isi bt_isi (pa_cons (pv 1) (pa_cons (pe_tup (pa_cons (pe_ty rfl T.tuple bt_tuple) (pa_cons (pe_ty rfl T.list bt_list) pa_nil))) pa_nil)))) (pss_cons (ps_if (PW.pt (pw_or (pt_not (pt_val (pe_callB call_is2 rfl T.isi bt_isi (pa_cons (pv 0) (pa_cons (pe_tup (pa_cons (pe_ty rfl T.tuple bt_tuple) (pa_cons (pe_ty rfl T.list bt_list) pa_nil))) pa_nil))))) (pw_or1 (pt_cmpR op_ne (pe_callB call_is rfl T.isi bt_isi (pa_cons (pv 0) (pa_cons (pe_ty rfl T.list bt_list) pa_nil))) (pe_callB call_is rfl T.isi bt_isi (pa_cons (pv 1) (pa_cons (pe_ty rfl T.list bt_list) pa_nil))) (nomark _))))) (pss_one (ps_ret pe_bl)) pss_nil)
  (pss_cons (ps_if (pt_cmpR op_ne (pe_callB call_lenT rfl T.len bt_len (pa_cons (pv 0) pa_nil)) (pe_callB call_lenT rfl T.len bt_len (pa_cons (pv 1) pa_nil)) (nomark _)) (pss_one (ps_ret pe_bl)) pss_nil)
  (pss_one (ps_ret (pe_cmpR (op_eqE hr.units) (pe_lc (own := [("_law_k", 2)]) (g := gName 2) rfl sc_law_alike.nd (pi_range1 rfl T.range (pa_cons (pe_callB call_lenT rfl T.len bt_len (pa_cons (pv 1) pa_nil)) pa_nil)) (blkOk_by (own := [("_law_k", 2)]) (N := N_law_alike) (sc := defScope s_law_alike) (by decide +kernel)) (fun _ _ _ _ _ => (pg_name (i := 2) sc_law_alike.nd rfl (Or.inl rfl))) (fun _ _ _ _ _ => (pts_one (pt_not (pt_val (pe_cal C_law_alike hr (by first | decide | exact Nat.le_refl _) rfl (pa_cons (pe_ix ix_t (pv 0) (pv 2) (fun _ _ => rfl)) (pa_cons (pe_ix ix_t (pv 1) (pv 2) (fun _ _ => rfl)) pa_nil))))))) (fun _ _ _ _ _ => (pv 2))) (pe_lst pa_nil) (nomark _)))))) pss_nil)
  (pss_cons (ps_if (PW.pt (pw_or (pt_cmpR op_isN (pv 1) pe_non (nomark _)) (pw_or1 (pt_val (pe_callB call_is rfl T.isi bt_isi (pa_cons (pv 1) (pa_cons (pe_ty rfl T.str bt_str) pa_nil))))))) (pss_one (ps_ret (pe_and (pe_cmpR op_eq (pv 0) (pv 1) (nomark _)) (pe_one (pe_cmpR op_eq (pe_callB call_is rfl T.isi bt_isi (pa_cons (pv 0) (pa_cons (pe_ty rfl T.str bt_str) pa_nil))) (pe_callB call_is rfl T.isi bt_isi (pa_cons (pv 1) (pa_cons (pe_ty rfl T.str bt_str) pa_nil))) (nomark _)))))) pss_nil)
  (pss_one (ps_ret (pe_and (pe_callB call_is rfl T.isi bt_isi (pa_cons (pv 0) (pa_cons (pe_ty rfl T.int bt_int) pa_nil))) (pe_and (pe_cmpR op_eq (pe_callB call_is rfl T.isi bt_isi (pa_cons (pv 0) (pa_cons (pe_ty rfl T.bool bt_bool) pa_nil))) (pe_callB call_is rfl T.isi bt_isi (pa_cons (pv 1) (pa_cons (pe_ty rfl T.bool bt_bool) pa_nil))) (nomark _)) (pe_one (pe_cmpR op_eq (pv 0) (pv 1) (nomark _))))))))), ?_⟩
    rcases hR with ⟨rfl, rfl⟩ | ⟨i, rfl, rfl⟩
    · refine ⟨_, rfl, by show 2 ≤ sizeLine; decide, fun t ht => ?_⟩
      refine ⟨_, t, _, _, _, _, _, rfl, upd_same, .non, kb_nt, kb_nl, _, rfl, ?_⟩
      refine iteF ?_
      refine ⟨_, rfl, rfl, _, rfl, ?_⟩
      refine iteT ?_
      refine iteT ?_
      refine ⟨_, rfl, _, rfl, rfl, _, rfl, iteT ?_⟩
      refine ⟨_, rfl, _, _, _, _, rfl, .non, kb_ns, _, rfl, _, _, _, _, rfl, .non, kb_ns, rfl, ?_⟩
      exact q _ (Ex.new ht)
    · refine ⟨_, rfl, by show 2 ≤ sizeLine; decide, fun t ht => ?_⟩
      refine ⟨_, t, _, _, _, _, _, rfl, upd_same, .int i, kb_it, kb_il, _, rfl, ?_⟩
      refine iteF ?_
      refine ⟨_, rfl, rfl, _, rfl, ?_⟩
      refine iteF ?_
      refine ⟨_, rfl, _, _, _, _, rfl, .int i, kb_is, _, rfl, ?_⟩
      refine iteF ?_
      refine ⟨_, rfl, _, _, _, _, rfl, .int i, kb_ii, _, rfl, iteT ?_⟩
      refine ⟨_, rfl, _, _, _, _, rfl, .int i, kb_ib, _, rfl, _, _, _, _, rfl, .int i, kb_ib, rfl, _, rfl, iteT ?_⟩
      refine ⟨_, rfl, _, rfl, rfl, ?_⟩
      have : decide (V.int i = V.int i) = true := decide_eq_true rfl
      rw [this]
      exact q _ (Ex.new ht)
theorem ok_law_alikeT {n : Nat} {R : Hp → V → V → Prop} (hR : ∀ H H' x y, Ex H H' → R H x y → R H' x y) (F : Fun K "_law_alike" "_law_alike" s_law_alike f fd) (T : Bi mg) (C_law_alike : Cal P w K mg base n "_law_alike" ["_law_found", "_law_due"] (spAlike R)) : FnOk P w K mg base CX0 (n + 1) f fd ["_law_found", "_law_due"] (spAlike (RelT R)) := by
  refine F.ok sc_law_alike (fun vs H Q E h => ?_) (fun cdv A outer s H vs Q E hr h => ?_)
  · obtain ⟨_, _, rfl, _⟩ := h
    rfl
  · obtain ⟨x, y, rfl, ⟨xs, ys, hx, hy, hal, hl⟩, q⟩ := h
    refine ⟨_, (pss_cons (ps_if (pt_val (pe_callB call_is2 rfl T.isi bt_isi (pa_cons (pv 1) (pa_cons (pe_tup (pa_cons (pe_ty rfl T.tuple bt_tuple) (pa_cons (pe_ty rfl T.list bt_list) pa_nil))) pa_nil)))) (pss_cons (ps_if (PW.pt (pw_or (pt_not (pt_val (pe_callB call_is2 rfl T.isi bt_isi (pa_cons (pv 0) (pa_cons (pe_tup (pa_cons (pe_ty rfl T.tuple bt_tuple) (pa_cons (pe_ty rfl T.list bt_list) pa_nil))) pa_nil))))) (pw_or1 (pt_cmpR op_ne (pe_callB call_is rfl T.isi bt_isi (pa_cons (pv 0) (pa_cons (pe_ty rfl T.list bt_list) pa_nil))) (pe_callB call_is rfl T.isi bt_isi (pa_cons (pv 1) (pa_cons (pe_ty rfl T.list bt_list) pa_nil))) (nomark _))))) (pss_one (ps_ret pe_bl)) pss_nil)
  (pss_cons (ps_if (pt_cmpR op_ne (pe_callB call_lenT rfl T.len bt_len (pa_cons (pv 0) pa_nil)) (pe_callB call_lenT rfl T.len bt_len (pa_cons (pv 1) pa_nil)) (nomark _)) (pss_one (ps_ret pe_bl)) pss_nil)
  (pss_one (ps_ret (pe_cmpR (op_eqE hr.units) (pe_lc (own := [("_law_k", 2)]) (g := gName 2) rfl sc_law_alike.nd (pi_range1 rfl T.range (pa_cons (pe_callB call_lenT rfl T.len bt_len (pa_cons (pv 1) pa_nil)) pa_nil)) (blkOk_by (own := [("_law_k", 2)]) (N := N_law_alike) (sc := defScope s_law_alike) (by decide +kernel)) (fun _ _ _ _ _ => (pg_name (i := 2) sc_law_alike.nd rfl (Or.inl rfl))) (fun _ _ _ _ _ => (pts_one (pt_not (pt_val (pe_cal C_law_alike hr (by first | decide | exact Nat.le_refl _) rfl (pa_cons (pe_ix ix_t (pv 0) (pv 2) (fun _ _ => rfl)) (pa_cons (pe_ix ix_t (pv 1) (pv 2) (fun _ _ => rfl)) pa_nil))))))) (fun _ _ _ _ _ => (pv 2))) (pe_lst pa_nil) (nomark _)))))) pss_nil)
  (pss_cons (ps_if (PW.pt (pw_or (pt_cmpR op_isN (pv 1) pe_non (nomark _)) (pw_or1 (pt_val (pe_callB call_is rfl T.isi bt_isi (pa_cons (pv 1) (pa_cons (pe_ty rfl T.str bt_str) pa_nil))))))) (pss_one (ps_ret (pe_and (pe_cmpR op_eq (pv 0) (pv 1) (nomark _)) (pe_one (pe_cmpR op_eq (pe_callB call_is rfl T.isi bt_isi (pa_cons (pv 0) (pa_cons (pe_ty rfl T.str bt_str) pa_nil))) (pe_callB call_is rfl T.isi bt_isi (pa_cons (pv 1) (pa_cons (pe_ty rfl T.str bt_str) pa_nil))) (nomark _)))))) pss_nil)
  (pss_one (ps_ret (pe_and (pe_callB call_is rfl T.isi bt_isi (pa_cons (pv 0) (pa_cons (pe_ty rfl T.int bt_int) pa_nil))) (pe_and (pe_cmpR op_eq (pe_callB call_is rfl T.isi bt_isi (pa_cons (pv 0) (pa_cons (pe_ty rfl T.bool bt_bool) pa_nil))) (pe_callB call_is rfl T.isi bt_isi (pa_cons (pv 1) (pa_cons (pe_ty rfl T.bool bt_bool) pa_nil))) (nomark _)) (pe_one (pe_cmpR op_eq (pv 0) (pv 1) (nomark _))))))))), ?_⟩
    have ll : xs.length = ys.length := Paired.length hal
    refine ⟨_, rfl, by show 2 ≤ sizeLine; decide, fun t ht => ?_⟩
    have e1 := Ex.new (o := .tup [V.ty "tuple", V.ty "list"]) ht
    refine ⟨_, t, _, _, _, _, _, rfl, upd_same, .tup (hy.ex e1), kb_tt, kb_tl, _, rfl, ?_⟩
    refine iteT ?_
    refine ⟨_, rfl, by show 2 ≤ sizeLine; decide, fun t2 ht2 => ?_⟩
    have e2 := e1.trans (Ex.new (o := .tup [V.ty "tuple", V.ty "list"]) ht2)
    refine ⟨_, t2, _, _, _, _, _, rfl, upd_same, .tup (hx.ex e2), kb_tt, kb_tl, _, rfl, ?_⟩
    refine iteF ?_
    refine ⟨_, rfl, _, _, _, _, rfl, .tup (hx.ex e2), kb_tl, _, rfl, _, _, _, _, rfl, .tup (hy.ex e2), kb_tl, rfl, _, rfl, ?_⟩
    refine iteF ?_
    refine ⟨_, rfl, _, _, rfl, hx.ex e2, _, rfl, _, _, rfl, hy.ex e2, rfl, _, rfl, ?_⟩
    have e0 : (!decide (V.int (xs.length : Int) = V.int (ys.length : Int))) = false := by rw [ll]; simp
    rw [e0]
    refine iteF ?_
    refine ⟨_, rfl, _, _, rfl, hy.ex e2, (ys.length : Int), rfl, by omega, by omega, fun D hD => ?_⟩
    have toN : ((ys.length : Int)).toNat = ys.length := by omega
    rw [toN]
    refine comp_it (walk_range (lo := 0) (n := ys.length)) hD (fun _ _ _ => False) (fun _ => True) (by omega) (fun _ _ => trivial) yfn_ex (fun _ _ _ _ _ _ _ h => h) ?_ ?_
    · rintro i z _ H3 hi e3 _ hz Q1 Q2 _ k2
      obtain ⟨rfl, rfl⟩ := yrange hz
      obtain ⟨yi, hyi⟩ : ∃ yi, ys[i]? = some yi := ⟨_, List.getElem?_eq_getElem hi⟩
      obtain ⟨xi, hxi, hr'⟩ := all2_getR hal hyi
      refine ⟨rfl, ?_⟩
      have e4 := e2.trans e3
      refine ⟨_, rfl, _, rfl, _, _, _, hx.ex e4, rfl, atI_nat hxi, _, rfl, _, rfl, _, _, _, hy.ex e4, rfl, atI_nat hyi, xi, yi, rfl, hR _ _ _ _ e4 hr', fun H5 e5 => ⟨true, rfl, ?_⟩⟩
      exact iteF (k2 _ e5 trivial)
    · intro us H3 e3 hus outs
      have hn := outs.none (fun _ _ h => h)
      subst hn
      refine ⟨Nat.zero_le _, fun r hr' => ?_⟩
      exact ⟨D, r, [], rfl, rfl, (Ex.new hr') _ _ hus, upd_same, sim_nil, q _ ((e2.trans e3).trans (Ex.new hr'))⟩
end
end CK

/-! The least words, level by level -/
namespace CK
open PySem PySem.Spec PyProof.Rows L2 CA
variable {as : List Arw} {k L : Nat} {d : List Nat}
abbrev WD := List (List Nat × List Arw)
structure WI (as : List Arw) (k : Nat) (d : List Nat) (L : Nat) (W : WD) (rows : List (List Nat)) : Prop where
  nd : (W.map (·.1)).Nodup
  sound : ∀ p ∈ W, ∃ j, Dst (Ef as k) d p.1 j ∧ j ≤ L ∧ Least as k d p.1 p.2 ∧ p.2.length = j
  full : ∀ e j, j ≤ L → Dst (Ef as k) d e j → e ∈ W.map (·.1)
  mem : ∀ e, e ∈ rows ↔ Dst (Ef as k) d e L
structure WB (as : List Arw) (k : Nat) (d : List Nat) (L : Nat) (W : WD) (M : List (List Nat)) : Prop where
  nd : (W.map (·.1)).Nodup
  sound : ∀ p ∈ W, ∃ j, Dst (Ef as k) d p.1 j ∧ j ≤ L + 1 ∧ Ld as k d p.1 p.2 ∧ p.2.length = j ∧ (j ≤ L → Least as k d p.1 p.2)
  full : ∀ e j, j ≤ L → Dst (Ef as k) d e j → e ∈ W.map (·.1)
  more : ∀ e, e ∈ M ↔ e ∈ W.map (·.1) ∧ Dst (Ef as k) d e (L + 1)
/-- the arrow a at p is done -/
def Low (k : Nat) (W : WD) (p : List Nat) (a : Arw) : Prop := ∀ u, (p, u) ∈ W → ∃ w, (stp k p a, w) ∈ W ∧ wle w (u ++ [a])
theorem nd_uniq : ∀ {W : WD} {e : List Nat} {u v : List Arw}, (W.map (·.1)).Nodup → (e, u) ∈ W → (e, v) ∈ W → u = v
  | p :: W, e, u, v, nd, h1, h2 => by
    rw [List.map_cons, List.nodup_cons] at nd
    rcases List.mem_cons.mp h1 with h1 | h1 <;> rcases List.mem_cons.mp h2 with h2 | h2
    · rw [← h1] at h2
      exact (Prod.mk.inj h2).2.symm
    · exact absurd (List.mem_map.mpr ⟨_, h2, by rw [← h1]⟩) nd.1
    · exact absurd (List.mem_map.mpr ⟨_, h1, by rw [← h2]⟩) nd.1
    · exact nd_uniq nd.2 h1 h2
theorem mem_keys {W : WD} {e : List Nat} : e ∈ W.map (·.1) ↔ ∃ w, (e, w) ∈ W :=
  ⟨fun h => by obtain ⟨p, hp, rfl⟩ := List.mem_map.mp h; exact ⟨p.2, hp⟩, fun ⟨j, h⟩ => List.mem_map.mpr ⟨(e, j), h, rfl⟩⟩
theorem least_nil : Least as k d d [] := ⟨⟨fun _ h => (nomatch h), rfl⟩, fun v _ => Nat.zero_le _, fun v _ hl => by
  have : v = [] := List.length_eq_zero_iff.mp hl
  rw [this]
  exact wle_refl _⟩
theorem WI.start : WI as k d 0 [(d, [])] [d] where
  nd := by simp
  sound := fun p hp => by rw [List.mem_singleton.mp hp]; exact ⟨0, .zero, Nat.le_refl 0, least_nil, rfl⟩
  full := fun e j hj h => by
    have : j = 0 := by omega
    subst this
    rw [h.eq0]
    exact List.mem_singleton.mpr rfl
  mem := fun e => ⟨fun h => by rw [List.mem_singleton.mp h]; exact .zero, fun h => List.mem_singleton.mpr h.eq0⟩
theorem WI.opened {W : WD} {rows : List (List Nat)} (h : WI as k d L W rows) : WB as k d L W [] where
  nd := h.nd
  sound := fun p hp => by
    obtain ⟨j, h1, h2, h3, h4⟩ := h.sound p hp
    exact ⟨j, h1, by omega, h3.ld, h4, fun _ => h3⟩
  full := h.full
  more := fun e => ⟨fun z => (nomatch z), fun ⟨z, z2⟩ => by
    obtain ⟨w, hw⟩ := mem_keys.mp z
    obtain ⟨j, h1, h2, _⟩ := h.sound _ hw
    have : j = L + 1 := h1.uniq z2
    omega⟩
/-- the word that leads over here -/
theorem over {here : List Nat} {a : Arw} {u : List Arw} (ha : a ∈ as) (h : Ld as k d here u) : Ld as k d (stp k here a) (u ++ [a]) := ⟨fun b hb => by
  rcases List.mem_append.mp hb with hb | hb
  · exact h.1 b hb
  · rw [List.mem_singleton.mp hb]; exact ha, by rw [runw_app, h.2]; rfl⟩
theorem WB.at {W : WD} {M : List (List Nat)} (h : WB as k d L W M) {here : List Nat} (hL : Dst (Ef as k) d here L) : ∃ u, (here, u) ∈ W ∧ Least as k d here u ∧ u.length = L := by
  obtain ⟨u, hu⟩ := mem_keys.mp (h.full here L (Nat.le_refl L) hL)
  obtain ⟨j, h1, h2, h3, h4, h5⟩ := h.sound _ hu
  have := h1.uniq hL
  have h4 : u.length = j := h4
  exact ⟨u, hu, h5 (by omega), by omega⟩
theorem WB.putNew {W : WD} {M : List (List Nat)} (h : WB as k d L W M) {here : List Nat} {u : List Arw} {a : Arw} (hL : Dst (Ef as k) d here L) (hu : (here, u) ∈ W) (ha : a ∈ as) (hT : Dst (Ef as k) d (stp k here a) (L + 1)) (hn : stp k here a ∉ W.map (·.1)) :
    WB as k d L (W ++ [(stp k here a, u ++ [a])]) (M ++ [stp k here a]) := by
  obtain ⟨j, h1, h2, h3, h4, _⟩ := h.sound _ hu
  have ej : j = L := h1.uniq hL
  refine ⟨?_, fun q hq => ?_, fun x j hj dd => by rw [List.map_append]; exact List.mem_append_left _ (h.full x j hj dd), fun x => ?_⟩
  · rw [List.map_append, List.nodup_append]
    refine ⟨h.nd, by simp, fun x hx y hy => ?_⟩
    rw [List.mem_singleton.mp hy]
    intro z
    rw [z] at hx
    exact hn hx
  · rcases List.mem_append.mp hq with hq | hq
    · exact h.sound q hq
    · rw [List.mem_singleton.mp hq]
      exact ⟨L + 1, hT, Nat.le_refl _, over ha h3, by rw [List.length_append, List.length_singleton]; show u.length + 1 = _; rw [h4, ej], fun z => absurd z (by omega)⟩
  · rw [List.mem_append, List.map_append, List.mem_append, h.more x, List.mem_singleton, List.map_cons, List.map_nil, List.mem_singleton]
    constructor
    · rintro (⟨z1, z2⟩ | z)
      · exact ⟨.inl z1, z2⟩
      · exact ⟨.inr z, by rw [z]; exact hT⟩
    · rintro ⟨z1 | z1, z2⟩
      · exact .inl ⟨z1, z2⟩
      · exact .inr z1
theorem chg_keys {W : WD} {e : List Nat} {c : List Arw} : (W.map fun p => if p.1 = e then (e, c) else p).map (·.1) = W.map (·.1) := by
  rw [List.map_map]
  refine List.map_congr_left fun p _ => ?_
  show (if p.1 = e then (e, c) else p).1 = p.1
  split
  · next h => exact h.symm
  · rfl
theorem mem_chg {W : WD} {e x : List Nat} {c w : List Arw} : (x, w) ∈ (W.map fun p => if p.1 = e then (e, c) else p) → (x = e ∧ w = c) ∨ (x ≠ e ∧ (x, w) ∈ W) := by
  intro h
  obtain ⟨p, hp, hh⟩ := List.mem_map.mp h
  have hh : (if p.1 = e then (e, c) else p) = (x, w) := hh
  split at hh
  · exact .inl ⟨(Prod.mk.inj hh).1.symm, (Prod.mk.inj hh).2.symm⟩
  · next ne =>
    rw [hh] at hp ne
    exact .inr ⟨ne, hp⟩
theorem chg_mem {W : WD} {e x : List Nat} {c w : List Arw} (ne : x ≠ e) (h : (x, w) ∈ W) : (x, w) ∈ (W.map fun p => if p.1 = e then (e, c) else p) :=
  List.mem_map.mpr ⟨(x, w), h, if_neg ne⟩
theorem chg_mem' {W : WD} {e : List Nat} {c : List Arw} (h : e ∈ W.map (·.1)) : (e, c) ∈ (W.map fun p => if p.1 = e then (e, c) else p) := by
  obtain ⟨w, hw⟩ := mem_keys.mp h
  exact List.mem_map.mpr ⟨(e, w), hw, if_pos rfl⟩
theorem WB.putOld {W : WD} {M : List (List Nat)} (h : WB as k d L W M) {here : List Nat} {u : List Arw} {a : Arw} (hL : Dst (Ef as k) d here L) (hu : (here, u) ∈ W) (ha : a ∈ as) (hT : Dst (Ef as k) d (stp k here a) (L + 1)) :
    WB as k d L (W.map fun p => if p.1 = stp k here a then (stp k here a, u ++ [a]) else p) M := by
  obtain ⟨j, h1, h2, h3, h4, _⟩ := h.sound _ hu
  have ej : j = L := h1.uniq hL
  refine ⟨by rw [chg_keys]; exact h.nd, fun q hq => ?_, fun x j hj dd => by rw [chg_keys]; exact h.full x j hj dd, fun x => by rw [chg_keys]; exact h.more x⟩
  obtain ⟨x, w⟩ := q
  rcases mem_chg hq with ⟨rfl, rfl⟩ | ⟨ne, hm⟩
  · exact ⟨L + 1, hT, Nat.le_refl _, over ha h3, by rw [List.length_append, List.length_singleton]; show u.length + 1 = _; rw [h4, ej], fun z => absurd z (by omega)⟩
  · exact h.sound _ hm
theorem Low.new {W : WD} {p e : List Nat} {b : Arw} {c : List Arw} (h : Low k W p b) (ne : p ≠ e) : Low k (W ++ [(e, c)]) p b := fun u hu => by
  rcases List.mem_append.mp hu with hu | hu
  · obtain ⟨w, hw, l⟩ := h u hu
    exact ⟨w, List.mem_append_left _ hw, l⟩
  · exact absurd (Prod.mk.inj (List.mem_singleton.mp hu)).1 ne
theorem Low.old {W : WD} {p e : List Nat} {b : Arw} {c w0 : List Arw} (h : Low k W p b) (nd : (W.map (·.1)).Nodup) (ne : p ≠ e) (h0 : (e, w0) ∈ W) (lt : wlt c w0 = true) : Low k (W.map fun p => if p.1 = e then (e, c) else p) p b := fun u hu => by
  rcases mem_chg hu with ⟨z, _⟩ | ⟨_, hm⟩
  · exact absurd z ne
  · obtain ⟨w, hw, l⟩ := h u hm
    by_cases q : stp k p b = e
    · rw [q] at hw ⊢
      have : w = w0 := nd_uniq nd hw h0
      subst this
      exact ⟨c, chg_mem' (mem_keys.mpr ⟨_, h0⟩), wle_tr (wle_lt lt) l⟩
    · exact ⟨w, chg_mem q hw, l⟩
theorem WB.close {W : WD} {M : List (List Nat)} (h : WB as k d L W M) (all : ∀ p a, Dst (Ef as k) d p L → a ∈ as → Dst (Ef as k) d (stp k p a) (L + 1) → Low k W p a) : WI as k d (L + 1) W M := by
  have key : ∀ e, Dst (Ef as k) d e (L + 1) → e ∈ W.map (·.1) := fun e he => by
    obtain ⟨p, hp, a, ha, rfl⟩ := he.pred
    obtain ⟨u, hu, _⟩ := h.at hp
    obtain ⟨w, hw, _⟩ := all p a hp ha he u hu
    exact mem_keys.mpr ⟨w, hw⟩
  refine ⟨h.nd, fun q hq => ?_, fun e j hj dd => ?_, fun e => ?_⟩
  · obtain ⟨e, w⟩ := q
    obtain ⟨j, h1, h2, h3, h4, h5⟩ := h.sound _ hq
    refine ⟨j, h1, h2, ?_, h4⟩
    rcases Nat.lt_or_ge j (L + 1) with c | c
    · exact h5 (by omega)
    · have ej : j = L + 1 := by omega
      subst ej
      refine ⟨h3, fun v hv => ?_, fun v hv hl => ?_⟩
      · have : ¬ v.length < L + 1 := fun z => h1.2 _ z (wk_word.mpr ⟨v, hv.1, rfl, hv.2⟩)
        have h4 : w.length = L + 1 := h4
        show w.length ≤ v.length
        omega
      · have hl : v.length = L + 1 := by rw [hl]; exact h4
        have vne : v ≠ [] := fun z => by rw [z] at hl; simp at hl
        have ev := List.dropLast_concat_getLast vne
        obtain ⟨v0, b, rfl⟩ : ∃ v0 b, v = v0 ++ [b] := ⟨_, _, ev.symm⟩
        rw [List.length_append, List.length_singleton] at hl
        have hv0 : Ld as k d (runw k d v0) v0 := ⟨fun a ha => hv.1 a (List.mem_append_left _ ha), rfl⟩
        have hb : b ∈ as := hv.1 b (List.mem_append_right _ (List.mem_singleton.mpr rfl))
        have eb : stp k (runw k d v0) b = e := by
          have := hv.2
          rw [runw_app] at this
          exact this
        have hp : Dst (Ef as k) d (runw k d v0) L := by
          obtain ⟨i, hi, hd⟩ := (wk_word.mpr ⟨v0, hv0.1, rfl, rfl⟩ : Wk (Ef as k) d v0.length (runw k d v0)).dst
          rcases Nat.lt_or_ge i L with c' | c'
          · exact absurd ⟨_, hd.1, b, hb, eb.symm⟩ (h1.2 (i + 1) (by omega))
          · have : i = L := by omega
            subst this
            exact hd
        obtain ⟨u, hu, lu, ll⟩ := h.at hp
        obtain ⟨w', hw', le⟩ := all _ b hp hb (by rw [eb]; exact h1) u hu
        rw [eb] at hw'
        have h4 : w.length = L + 1 := h4
        have : w' = w := nd_uniq h.nd hw' hq
        subst this
        exact wle_tr le (wle_snoc (by omega) (lu.least v0 hv0 (by omega)))
  · rcases Nat.lt_or_ge j (L + 1) with c | c
    · exact h.full e j (by omega) dd
    · have : j = L + 1 := by omega
      subst this
      exact key e dd
  · rw [h.more e]
    exact ⟨fun z => z.2, fun z => ⟨key e z, z⟩⟩
theorem WI.done {W : WD} (h : WI as k d L W []) (e : List Nat) : e ∈ W.map (·.1) ↔ ∃ j, Dst (Ef as k) d e j := by
  constructor
  · intro z
    obtain ⟨w, hw⟩ := mem_keys.mp z
    obtain ⟨j, h1, _⟩ := h.sound _ hw
    exact ⟨j, h1⟩
  · rintro ⟨j, hj⟩
    rcases Nat.lt_or_ge j (L + 1) with c | c
    · exact h.full e j (by omega) hj
    · obtain ⟨p, hp⟩ := hj.down L (by omega)
      exact absurd ((h.mem p).mpr hp) (fun z => nomatch z)
end CK

/-! law -/
namespace CK
open PySem PySem.Spec PyProof.Rows L2 CA
def msW (W : WD) (rows : List (List Nat)) : Nat := 2 * (4096 - W.length) + (if rows = [] then 0 else 1)
theorem wd_le {n k : Nat} {as : List Arw} {W : WD} (gw : GW n k as) (nd : (W.map (·.1)).Nodup) (h : ∀ p ∈ W, VD n k p.1) : W.length ≤ 4096 := by
  have := dials_le (n := n) (k := k) nd (fun d hd => by obtain ⟨p, hp, rfl⟩ := List.mem_map.mp hd; exact h p hp)
  rw [List.length_map] at this
  exact Nat.le_trans this gw.few
theorem sz6 {m : Nat} (h : m ≤ 4096) : m < sizeLine := Nat.lt_of_le_of_lt h (by decide)
theorem IsW.len {H : Hp} {v : V} {w : List Arw} (h : IsW H v w) : ∃ vs, IsT H v vs ∧ All2 (IsA H) vs w ∧ vs.length = w.length := let ⟨vs, a, b⟩ := h; ⟨vs, a, b, Paired.length b⟩
def spLaw (K : PySem.W.Frag) : Sp := fun vs H Q _ => ∃ (a : Addr) (ns : List Int), vs = [.ref a] ∧ SqL K H a (ns.map V.int) ∧ ∀ H', Q (.bl true) H'
theorem scok_new {K : PySem.W.Frag} {r a : Addr} {xs : List V} {H : Hp} {o : HO} (h : SqL K H a xs) (hr : H r = none) : ScOk K r a xs (upd H r o) := fun H' e => by
  rcases h with h | h
  · rcases h with h | ⟨ob, h⟩
    · have ne : a ≠ r := fun z => by rw [z, hr] at h; cases h
      exact .inl (.inl (e _ _ ne (by rw [upd_ne ne]; exact h)))
    · have ne : a ≠ r := fun z => by rw [z, hr] at h; cases h
      exact .inl (.inr ⟨ob, e _ _ ne (by rw [upd_ne ne]; exact h)⟩)
  · exact .inr h
theorem ws_of {n k : Nat} : ∀ {os : List V}, os.length = n → (∀ y ∈ os, y = .non ∨ ∃ x : Nat, y = .int (x : Int) ∧ x < k) → ∃ ws, os = wv ws ∧ Wish n k ws := by
  intro os
  induction os generalizing n with
  | nil => intro h _; exact ⟨[], rfl, h, fun _ z => (nomatch z)⟩
  | cons y os ih =>
    intro h hh
    obtain ⟨ws, rfl, wi⟩ := ih (n := os.length) rfl (fun z hz => hh z (List.mem_cons_of_mem _ hz))
    have l : ws.length = (wv ws).length := wi.1
    rcases hh y List.mem_cons_self with rfl | ⟨x, rfl, hx⟩
    · refine ⟨none :: ws, rfl, by rw [← h]; show ws.length + 1 = (wv ws).length + 1; omega, fun z hz => ?_⟩
      rcases List.mem_cons.mp hz with z' | hz
      · cases z'
      · exact wi.2 z hz
    · refine ⟨some x :: ws, rfl, by rw [← h]; show ws.length + 1 = (wv ws).length + 1; omega, fun z hz => ?_⟩
      rcases List.mem_cons.mp hz with z' | hz
      · cases z'; exact hx
      · exact wi.2 z hz
theorem rc_dst {as : List Arw} {k : Nat} {d e : List Nat} : Rc as k d e ↔ ∃ j, Dst (Ef as k) d e j := by
  constructor
  · rintro ⟨w, h1, h2⟩
    obtain ⟨j, _, hj⟩ := (wk_word.mpr ⟨w, h1, rfl, h2⟩ : Wk (Ef as k) d w.length e).dst
    exact ⟨j, hj⟩
  · rintro ⟨j, hj⟩
    obtain ⟨w, h1, _, h2⟩ := wk_word.mp hj.1
    exact ⟨w, h1, h2⟩
theorem all2_iv : ∀ {us : List V} {G : List (List Nat × Nat)}, All2 (fun v p => v = V.int ((p.2 : Nat) : Int)) us G → us = iv (G.map (·.2))
  | _, _, .nil => rfl
  | _, _, .cons r t => by
    rw [r, all2_iv t]
    rfl
section
variable {P : Program} {w : World} {K : PySem.W.Frag} {mg : Str → Option Value} {base : Heap} {f : Addr} {fd : FuncData}
theorem ok_law (F : Fun K "law" "law" s_law f fd) (T : Bi mg) (C_law_small : Cal P w K mg base 4 "_law_small" ["_law_row"] (spSmall K)) (C_law_from : Cal P w K mg base 2 "_law_from" ["_law_web_here", "_law_hours", "_law_dial_here"] spFrom) (C_law_step : Cal P w K mg base 1 "_law_step" ["_law_hours", "_law_dial_here", "_law_arrow"] spStep) (C_law_pick : Cal P w K mg base 2 "_law_pick" ["_law_row", "_law_things"] (spPick K)) (C_law_dial : Cal P w K mg base 3 "_law_dial" ["_law_row", "_law_web_here", "_law_hours"] (spDial K)) (C_law_taken : Cal P w K mg base 1 "_law_taken" ["_law_row", "_law_many"] (spTaken K))
    (C_law_alike : Cal P w K mg base 4 "_law_alike" ["_law_found", "_law_due"] (fun vs H Q E => spAlike Rel0 vs H Q E ∨ spAlike (RelT (RelT Rel0)) vs H Q E)) (C_way_between : Cal P w K mg base 8 "way_between" ["web", "hours", "one", "other"] spWayBetween) (C_fewest_met : Cal P w K mg base 7 "fewest_met" ["web", "hours", "dial", "wish"] spFewestMet) : FnOk P w K mg base CX0 9 f fd ["_law_script"] (spLaw K) := by
  refine F.ok sc_law (fun vs H Q E h => ?_) (fun cdv A outer s H vs Q E hr h => ?_)
  · obtain ⟨_, _, rfl, _⟩ := h
    rfl
  · obtain ⟨sa, ns, rfl, hsc, q⟩ := h
    refine ⟨_, (pss_cons (ps_set (i := 1) sc_law.nd rfl (Or.inr rfl) (pe_lst (pa_cons (pv 0) (pa_cons pe_int (pa_cons pe_int (pa_cons pe_int pa_nil))))))
  (pss_cons (ps_asg (pe_cal C_law_small hr (by first | decide | exact Nat.le_refl _) rfl (pa_cons (pv 1) pa_nil)) (pg_tup rfl (pgs_cons (pg_name (i := 2) sc_law.nd rfl (Or.inr rfl)) (pgs_cons (pg_name (i := 3) sc_law.nd rfl (Or.inr rfl)) (pgs_cons (pg_name (i := 4) sc_law.nd rfl (Or.inl rfl)) pgs_nil)))))
  (pss_cons (ps_asg (pe_tup (pa_cons (pe_cal C_law_from hr (by first | decide | exact Nat.le_refl _) rfl (pa_cons (pv 2) (pa_cons (pv 3) (pa_cons (pv 4) pa_nil)))) (pa_cons (pe_disp1 (hu_of hr) (pv 4) (pe_tup pa_nil)) (pa_cons (pe_lst (pa_cons (pv 4) pa_nil)) pa_nil)))) (pg_tup rfl (pgs_cons (pg_name (i := 5) sc_law.nd rfl (Or.inr rfl)) (pgs_cons (pg_name (i := 6) sc_law.nd rfl (Or.inl rfl)) (pgs_cons (pg_name (i := 7) sc_law.nd rfl (Or.inl rfl)) pgs_nil)))))
  (pss_cons (ps_while PassesOwn.never (pt_cmpR (op_neE hr.units) (pv 7) (pe_lst pa_nil) (nomark _)) (pss_cons (ps_set (i := 8) sc_law.nd rfl (Or.inl rfl) (pe_lst pa_nil))
  (pss_cons (ps_for PassesOwn.never rfl (pi_list (pv 7)) (pg_name (i := 9) sc_law.nd rfl (Or.inl rfl)) (pss_one (ps_for PassesOwn.never rfl (pi_tup (pe_ix ix_t (pv 2) pe_int (fun _ _ => rfl))) (pg_name (i := 10) sc_law.nd rfl (Or.inl rfl)) (pss_cons (ps_set (i := 11) sc_law.nd rfl (Or.inl rfl) (pe_cal C_law_step hr (by first | decide | exact Nat.le_refl _) rfl (pa_cons (pv 3) (pa_cons (pv 9) (pa_cons (pv 10) pa_nil)))))
  (pss_one (ps_if (pt_cmpR op_eq (pe_dget (hu_of hr) (pv 5) (pv 11) (fun _ _ => rfl)) (pe_op op_add (pe_dget (hu_of hr) (pv 5) (pv 9) (fun _ _ => rfl)) pe_int) (nomark _)) (pss_cons (ps_if (pt_cmp (pc_dnotin (hu_of hr) (pv 11) (pv 6))) (pss_one (ps_expr (pe_bm PySem.F.plainAttrs_list PySem.F.slot_list_append PySem.F.type_list_append mt_append (pv 8) (pa_cons (pv 11) pa_nil)))) pss_nil)
  (pss_one (ps_if (PW.pt (pw_or (pt_cmp (pc_dnotin (hu_of hr) (pv 11) (pv 6))) (pw_or1 (pt_cmpR (op_ltW hr.units) (pe_op op_cat2 (pe_dget (hu_of hr) (pv 6) (pv 9) (fun _ _ => rfl)) (pe_tup (pa_cons (pv 10) pa_nil))) (pe_dget (hu_of hr) (pv 6) (pv 11) (fun _ _ => rfl)) (nomark _))))) (pss_one (ps_dput (hu_of hr) (pv 6) (pv 11) (pe_op op_cat2 (pe_dget (hu_of hr) (pv 6) (pv 9) (fun _ _ => rfl)) (pe_tup (pa_cons (pv 10) pa_nil))) rfl)) pss_nil))) pss_nil))))))
  (pss_one (ps_set (i := 7) sc_law.nd rfl (Or.inl rfl) (pv 8))))))
  (pss_cons (ps_for PassesOwn.never rfl (pi_list (pe_lst (pa_cons (pe_cal C_law_pick hr (by first | decide | exact Nat.le_refl _) rfl (pa_cons (pv 1) (pa_cons (pe_callB (cr_sortedK rfl hr.units) rfl T.sorted bt_sorted (pa_cons (pe_bm0 PySem.F.plainAttrs_dict PySem.F.slot_dict_keys PySem.F.type_dict_keys mt_keysT (pv 5)) pa_nil)) pa_nil))) (pa_cons (pe_cal C_law_dial hr (by first | decide | exact Nat.le_refl _) rfl (pa_cons (pv 1) (pa_cons (pv 2) (pa_cons (pv 3) pa_nil)))) pa_nil)))) (pg_name (i := 12) sc_law.nd rfl (Or.inl rfl)) (pss_one (ps_if (pt_not (pt_val (pe_cal C_law_alike hr (by first | decide | exact Nat.le_refl _) rfl (pa_cons (pe_cal C_way_between hr (by first | decide | exact Nat.le_refl _) rfl (pa_cons (pv 2) (pa_cons (pv 3) (pa_cons (pv 4) (pa_cons (pv 12) pa_nil))))) (pa_cons (pe_dget2 (hu_of hr) (pv 6) (pv 12) pe_non ⟨rfl, rfl, rfl, rfl⟩) pa_nil))))) (pss_one (ps_ret pe_bl)) pss_nil)))
  (pss_cons (ps_set (i := 13) sc_law.nd rfl (Or.inl rfl) (pe_cal C_law_pick hr (by first | decide | exact Nat.le_refl _) rfl (pa_cons (pv 1) (pa_cons (pe_lst (pa_cons (pe_cal C_law_pick hr (by first | decide | exact Nat.le_refl _) rfl (pa_cons (pv 1) (pa_cons (pe_callB (cr_sortedK rfl hr.units) rfl T.sorted bt_sorted (pa_cons (pe_bm0 PySem.F.plainAttrs_dict PySem.F.slot_dict_keys PySem.F.type_dict_keys mt_keysT (pv 5)) pa_nil)) pa_nil))) (pa_cons (pe_callTy call_tupL rfl T.tuple bt_tuple (pa_cons (pe_lc (own := [("_law_k", 16)]) (g := gName 16) rfl sc_law.nd (pi_range1 rfl T.range (pa_cons (pe_ix ix_t (pv 2) pe_int (fun _ _ => rfl)) pa_nil)) (blkOk_by (own := [("_law_k", 16)]) (N := N_law) (sc := defScope s_law) (by decide +kernel)) (fun _ _ _ _ _ => (pg_name (i := 16) sc_law.nd rfl (Or.inl rfl))) (fun _ _ _ _ _ => pts_nil) (fun _ _ _ _ _ => (pe_cal C_law_taken hr (by first | decide | exact Nat.le_refl _) rfl (pa_cons (pv 1) (pa_cons (pv 3) pa_nil))))) pa_nil)) pa_nil))) pa_nil))))
  (pss_cons (ps_set (i := 14) sc_law.nd rfl (Or.inr rfl) (pe_callTy call_tupL rfl T.tuple bt_tuple (pa_cons (pe_lc (own := [("_law_one", 17)]) (g := gName 17) rfl sc_law.nd (pi_tup (pv 13)) (blkOk_by (own := [("_law_one", 17)]) (N := N_law) (sc := defScope s_law) (by decide +kernel)) (fun _ _ _ _ _ => (pg_name (i := 17) sc_law.nd rfl (Or.inl rfl))) (fun _ _ _ _ _ => pts_nil) (fun _ _ _ _ _ => (pe_ifExp (pt_cmpR op_eq (pe_cal C_law_taken hr (by first | decide | exact Nat.le_refl _) rfl (pa_cons (pv 1) (pa_cons pe_int pa_nil))) pe_int (nomark _)) (pv 17) pe_non))) pa_nil)))
  (pss_cons (ps_lock (ps_setLc (i := 15) (own := [("_law_there", 11)]) (g := gName 11) rfl sc_law.nd rfl rfl (sw_true rfl rfl rfl (by decide +kernel)) (pi_keysT (pv 5)) (blkOk_by (own := [("_law_there", 11)]) (N := N_law) (sc := defScope s_law) (by decide +kernel)) (fun _ _ _ _ _ => (pg_name (i := 11) sc_law.nd rfl (Or.inr rfl))) (fun _ _ _ _ _ => (pts_one (pt_cmpR (op_eqE hr.units) (pe_lc (own := [("_law_k", 16)]) (g := gName 16) rfl sc_law.nd (pi_range1 rfl T.range (pa_cons (pe_ix ix_t (pv 2) pe_int (fun _ _ => rfl)) pa_nil)) (blkOk_by (own := [("_law_k", 16)]) (N := N_law) (sc := sco_law0) (by decide +kernel)) (fun _ _ _ _ _ => (pg_name (i := 16) sc_law.nd rfl (Or.inl rfl))) (fun _ _ _ _ _ => (pts_one (PW.pt (pw_and (pt_cmpR op_notN (pe_ix ix_t (pv 14) (pv 16) (fun _ _ => rfl)) pe_non (nomark _)) (pw_and1 (pt_cmpR op_ne (pe_ix ix_t (pv 14) (pv 16) (fun _ _ => rfl)) (pe_ix ix_t (pv 11) (pv 16) (fun _ _ => rfl)) (nomark _))))))) (fun _ _ _ _ _ => (pv 16))) (pe_lst pa_nil) (nomark _)))) (fun _ _ _ _ _ => (pe_dget (hu_of hr) (pv 5) (pv 11) (fun _ _ => rfl)))))
  (pss_one (ps_ret (pe_cal C_law_alike hr (by first | decide | exact Nat.le_refl _) rfl (pa_cons (pe_cal C_fewest_met hr (by first | decide | exact Nat.le_refl _) rfl (pa_cons (pv 2) (pa_cons (pv 3) (pa_cons (pv 4) (pa_cons (pv 14) pa_nil))))) (pa_cons (pe_ifExp (pt_cmpR (op_neE hr.units) (pv 15) (pe_lst pa_nil) (nomark _)) (pe_callB (cr_min rfl) rfl T.min bt_min (pa_cons (pv 15) pa_nil)) pe_non) pa_nil))))))))))))), ?_⟩
    refine ⟨_, rfl, by show 4 ≤ sizeLine; decide, fun r hr0 => ?_⟩
    have row1 : RowS r sa (upd H r (.lst [.ref sa, .int 0, .int 9919, .int 0])) := ⟨0, 9919, 0, upd_same, by decide, by decide, by decide, by decide⟩
    have sc1 : ScOk K r sa (ns.map V.int) (upd H r (.lst [.ref sa, .int 0, .int 9919, .int 0])) := scok_new hsc hr0
    refine ⟨_, rfl, r, sa, ns, rfl, row1, sc1, fun u v y n k as d H2 b2 row2 hu hw gw hd vd => ?_⟩
    have sc2 := sc1.eb b2
    obtain ⟨tu, rfl, htu⟩ := hu
    refine ⟨tu, _, rfl, SqT.of htu, rfl, _, _, rfl, _, _, rfl, _, _, rfl, rfl, ?_⟩
    have k2' := gw.k2
    have k0 : 0 < k := by omega
    have n1 := gw.n1
    have n4 := gw.n4
    have hvw : ∀ j e, Wk (Ef as k) d j e → VD n k e := fun j e h => Wk.vdf k0 vd h
    refine ⟨_, rfl, _, rfl, _, rfl, v, y, n, k, as, d, rfl, hw, gw, hd, vd, fun lk kvs F H3 e3 hlk hk3 kf A => ?_⟩
    obtain ⟨zz, hv, hz⟩ := id hw
    obtain ⟨us, hus, hall⟩ := id hz
    obtain ⟨ta, rfl, hta⟩ := id hus
    obtain ⟨td, rfl, htd⟩ := id hd
    refine fun lw hlw => ⟨_, rfl, Nat.zero_le _, fun te hte => ⟨?_, ik d, td, rfl, ?_, ?_⟩⟩
    · have : lw ≠ te := fun z => by rw [← z, upd_same] at hte; cases hte
      rw [upd_ne this]
      exact upd_same
    · rw [ik_kV]
      exact ((Ex.new hlw).trans (Ex.new hte)) _ _ (e3 _ _ htd)
    have nwe : lw ≠ te := fun z => by rw [← z, upd_same] at hte; cases hte
    have kk : (ik d).map kV = iv d := ik_kV d
    obtain ⟨X1, eX1⟩ : ∃ X1, X1 = upd (upd (upd H3 lw (.dT [])) te (.tup [])) lw (.dT [(ik d, V.ref te)]) := ⟨_, rfl⟩
    show (fun _ => _) _
    rw [← eX1]
    have ex1 : Ex H3 X1 := by rw [eX1]; exact Ex.mut ((Ex.new hlw).trans (Ex.new hte)) hlw
    have xw1 : X1 lw = some (.dT [(ik d, V.ref te)]) := by rw [eX1]; exact upd_same
    have xt1 : X1 te = some (.tup []) := by rw [eX1, upd_ne (Ne.symm nwe)]; exact upd_same
    refine ⟨_, rfl, by show 1 ≤ sizeLine; decide, fun lr hlr => ?_⟩
    refine ⟨by show 3 ≤ sizeLine; decide, fun tt htt => ?_⟩
    have ex2 : Ex X1 (upd (upd X1 lr (.lst [V.ref td])) tt (.tup [V.ref lk, V.ref lw, V.ref lr])) := (Ex.new hlr).trans (Ex.new htt)
    have xr2 : (upd (upd X1 lr (.lst [V.ref td])) tt (.tup [V.ref lk, V.ref lw, V.ref lr])) lr = some (.lst [V.ref td]) := (Ex.new htt) _ _ upd_same
    refine ⟨tt, _, rfl, SqT.of upd_same, rfl, _, _, rfl, _, _, rfl, _, _, rfl, rfl, ?_⟩
    have ex02 := ex1.trans ex2
    refine ⟨fun m σ H' => ∃ (L : Nat) (W : WD) (rows : List (List Nat)) (wk : List (List L2.Key × V)) (rs : List V) (lr : Addr) (a b c e : Option V), σ = [some (.ref sa), some (.ref r), some v, some (.int (k : Int)), some (.ref td), some (.ref lk), some (.ref lw), some (.ref lr), a, b, c, e, none, none, none, none, none, none] ∧ Ex H3 H' ∧ H' lw = some (.dT wk) ∧ H' lr = some (.lst rs) ∧ KV (IsW H') wk W ∧ All2 (IsI H') rs rows ∧ WI as k d L W rows ∧ m = msW W rows,
      ⟨_, 0, [(d, [])], [d], [(ik d, V.ref te)], [V.ref td], lr, none, none, none, none, rfl, ex02, ex2 _ _ xw1, xr2, .cons ⟨rfl, [], IsT.mk (ex2 _ _ xt1), .nil⟩ .nil, .cons ((hd.ex e3).ex ex02) .nil, WI.start, rfl⟩, ?_⟩
    rintro m σ H0 ⟨L, W, rows, wk, rs, lr, a, b, c, e, rfl, e0, h1, h2, kw, al, I, rfl⟩
    refine ⟨_, rfl, Nat.zero_le _, fun l0 hl0 => ?_⟩
    have e1 : Ex H0 (upd H0 l0 (.lst [])) := Ex.new hl0
    have al1 : All2 (IsI (upd H0 l0 (.lst []))) rs rows := Paired.mapP al fun _ _ h => h.ex e1
    refine ⟨lr, l0, _, rfl, rfl, e1 _ _ h2, upd_same, .inr ⟨rows, al1⟩, _, rfl, ?_⟩
    have wvd : ∀ {L' : Nat} {W' : WD} {M : List (List Nat)}, WB as k d L' W' M → ∀ p ∈ W', VD n k p.1 := fun J p hp => by
      obtain ⟨j, hj, _⟩ := J.sound p hp
      exact hvw _ _ hj.1
    by_cases hR : rows = []
    · subst hR
      have hrs : rs = [] := by
        cases al
        rfl
      subst hrs
      refine iteF ?_
      -- the words are there
      obtain ⟨HD, eHD⟩ : ∃ HD, HD = upd H0 l0 (.lst []) := ⟨_, rfl⟩
      rw [← eHD] at e1 ⊢
      have eD : Ex H3 HD := e0.trans e1
      have wD : HD lw = some (.dT wk) := e1 _ _ h1
      have kD : KV (IsW HD) wk W := kw.mp fun _ _ h => h.ex e1
      clear al al1 h2 hl0 eHD xr2
      have rowD := (row2.ex e3).ex eD
      have scD := (sc2.eb (Eb.of e3)).eb (Eb.of eD)
      have lkD : HD lk = some (.dT kvs) := eD _ _ hk3
      have hwD := (hw.ex e3).ex eD
      have hdD := (hd.ex e3).ex eD
      have k24 := gw.k24
      have nlr : lk ≠ r := fun z => by
        obtain ⟨i1, i2, i3, g, _⟩ := rowD
        rw [z, g] at lkD
        cases lkD
      have nwr : lw ≠ r := fun z => by
        obtain ⟨i1, i2, i3, g, _⟩ := rowD
        rw [z, g] at wD
        cases wD
      have d0F : (d, 0) ∈ F := (A.iff d 0).mpr .zero
      have dsne : ∀ x ∈ F.map (·.1), x ≠ [] := fun x hx => by
        obtain ⟨p, hp, rfl⟩ := List.mem_map.mp hx
        exact vd_ne (A.vd p hp) n1
      have Fl : 1 ≤ F.length := List.length_pos_of_mem d0F
      have Ff := A.few
      have kl : kvs.length = F.length := kf.len
      -- a key out of the sorted ones
      have keyed : ∀ {H' : Hp} {qs : List Addr} {x : V}, (∀ q ∈ qs, ∃ dd ∈ F.map (·.1), H' q = some (.tup (iv dd))) → x ∈ qs.map V.ref → ∃ o, IsI H' x o ∧ VD n k o := fun {H' qs x} hq hx => by
        obtain ⟨q, hq', rfl⟩ := List.mem_map.mp hx
        obtain ⟨dd, hdd, h⟩ := hq q hq'
        obtain ⟨p, hp, rfl⟩ := List.mem_map.mp hdd
        exact ⟨p.1, IsT.mk h, A.vd p hp⟩
      refine ⟨_, rfl, ?_⟩
      refine ⟨_, rfl, .inr (.inr (.inl ⟨rfl, .inr ⟨_, lkD⟩⟩)), lk, kvs, rfl, rfl, lkD, fun pk hpk => ?_⟩
      have ek1 := Ex.new (o := keysO pk lk) hpk
      refine ⟨pk, lk, kvs, F.map (·.1), rfl, upd_same, ek1 _ _ lkD, kf.keys, dsne, fun l qs hl hql hqs => ?_⟩
      have ek2 := ek1.trans (Ex.new (o := .lst (qs.map V.ref)) hl)
      have row4 := rowD.ex ek2
      have nel : l ≠ r := fun z => (rowD.ex ek1).ne (z ▸ hl)
      refine ⟨r, sa, l, ns, qs.map V.ref, rfl, row4, scD.eb (Eb.of ek2), nel, upd_same, by rw [List.length_map]; omega, by rw [List.length_map]; omega, fun vo H5 b5 row5 hvo => ?_⟩
      obtain ⟨o1, ho1, vdo1⟩ := keyed hqs hvo
      have b05 := (Eb.of ek2).trans b5
      have tm05 := b05.tm rowD
      have ho1' : IsI H5 vo o1 := (ho1.ex (Ex.new (o := .lst (qs.map V.ref)) hl)).tm (b5.tm row4)
      refine ⟨_, rfl, _, rfl, _, rfl, r, sa, ns, v, n, k, as, rfl, row5, scD.eb b05, hwD.tm tm05, n1, n4, k2', k24, fun vo2 o2 H6 b6 row6 ho2 vdo2 => ?_⟩
      have b06 := b05.trans b6
      refine ⟨by show 2 ≤ sizeLine; decide, fun ll hll => ?_⟩
      have e6 := Ex.new (o := .lst [vo, vo2]) hll
      obtain ⟨H7, eH7⟩ : ∃ H7, H7 = upd H6 ll (.lst [vo, vo2]) := ⟨_, rfl⟩
      have ll7 : H7 ll = some (.lst [vo, vo2]) := by rw [eH7]; exact upd_same
      rw [← eH7] at e6 ⊢
      have b07 := b06.trans (Eb.of e6)
      have tm07 := b07.tm rowD
      have row7 := row6.ex e6
      have lk7 : H7 lk = some (.dT kvs) := b07 _ _ nlr lkD
      have lw7 : H7 lw = some (.dT wk) := b07 _ _ nwr wD
      have others : ∀ (i : Nat) (x : V), [vo, vo2][i]? = some x → ∃ o, IsI H7 x o ∧ VD n k o := fun i x hx => by
        match i, hx with
        | 0, hx => cases hx; exact ⟨o1, (ho1'.tm (b6.tm row5)).ex e6, vdo1⟩
        | 1, hx => cases hx; exact ⟨o2, ho2.ex e6, vdo2⟩
      refine ⟨ll, rfl, ⟨_, SqL.of ll7⟩, ?_⟩
      refine for_it (walk_list (K := K) (a := ll) (xs := [vo, vo2])) (fun i σ H' => ∃ o : Option V, σ = [some (.ref sa), some (.ref r), some v, some (.int (k : Int)), some (.ref td), some (.ref lk), some (.ref lw), some (.ref lr), a, b, c, e, o, none, none, none, none, none] ∧ Ex H7 H') ⟨none, rfl, Same.refl _⟩ (fun i σ H' _ ⟨_, _, z⟩ => SqL.of (z _ _ ll7)) ?_ ?_
      · rintro i x σ _ H8 hi ⟨o', rfl, e8⟩ ⟨rfl, hx⟩
        obtain ⟨o, ho, vdo⟩ := others i x hx
        have kW : KV (IsW H8) wk W := kD.mp fun _ _ h => h.tm (tm07.trans (Tm.of e8))
        refine ⟨_, rfl, _, rfl, _, rfl, _, rfl, v, .ref td, x, n, k, as, d, o, rfl, (hwD.tm tm07).ex e8, gw, (hdD.tm tm07).ex e8, vd, ho.ex e8, vdo, fun nrc H9 e9 => ?_, fun uw ww H9 e9 huw lww => ?_⟩
        · refine ⟨_, rfl, lw, rfl, .inr ⟨wk, .inl ((e8.trans e9) _ _ lw7)⟩, _, rfl, _, dget_i ((e8.trans e9) _ _ lw7) (ho.ex (e8.trans e9)), ?_⟩
          rw [kW.none (fun z => nrc (rc_dst.mpr ((I.done o).mp z)))]
          exact .inl ⟨.non, .non, rfl, .inl ⟨rfl, rfl⟩, fun Ha ea => ⟨true, rfl, iteF ⟨_, rfl, (e8.trans e9).trans ea⟩⟩⟩
        · have rco : Rc as k d o := ⟨ww, lww.ld⟩
          obtain ⟨w', hw'⟩ := mem_keys.mp ((I.done o).mpr (rc_dst.mp rco))
          obtain ⟨j, hj, _, lw', lj⟩ := I.sound _ hw'
          have : ww = w' := lww.uniq lw'
          subst this
          have jl := A.lt _ ((A.iff o j).mpr hj)
          have lj : ww.length = j := lj
          obtain ⟨vv, hvv, rvv⟩ := kW.get I.nd hw'
          refine ⟨_, rfl, lw, rfl, .inr ⟨wk, .inl ((e8.trans e9) _ _ lw7)⟩, _, rfl, _, dget_i ((e8.trans e9) _ _ lw7) (ho.ex (e8.trans e9)), ?_⟩
          rw [hvv]
          refine .inr ⟨uw, vv, rfl, rel_word huw (rvv.ex e9) (by have : j < 4096 := jl; omega), fun Ha ea => ⟨true, rfl, iteF ⟨_, rfl, (e8.trans e9).trans ea⟩⟩⟩
      · rintro σ H8 ⟨o', rfl, e8⟩
        have b08 := b07.trans (Eb.of e8)
        have tm08 := b08.tm rowD
        have row8 := row7.ex e8
        have lk8 := e8 _ _ lk7
        refine ⟨_, rfl, _, rfl, ?_⟩
        refine ⟨_, rfl, .inr (.inr (.inl ⟨rfl, .inr ⟨_, lk8⟩⟩)), lk, kvs, rfl, rfl, lk8, fun pk2 hpk2 => ?_⟩
        have em1 := Ex.new (o := keysO pk2 lk) hpk2
        refine ⟨pk2, lk, kvs, F.map (·.1), rfl, upd_same, em1 _ _ lk8, kf.keys, dsne, fun l2 qs2 hl2 hql2 hqs2 => ?_⟩
        have em2 := em1.trans (Ex.new (o := .lst (qs2.map V.ref)) hl2)
        have row9 := row8.ex em2
        have nel2 : l2 ≠ r := fun z => (row8.ex em1).ne (z ▸ hl2)
        refine ⟨r, sa, l2, ns, qs2.map V.ref, rfl, row9, scD.eb (b08.trans (Eb.of em2)), nel2, upd_same, by rw [List.length_map]; omega, by rw [List.length_map]; omega, fun va H9 b9 row9' hva => ?_⟩
        obtain ⟨o3, ho3, vdo3⟩ := keyed hqs2 hva
        have b09 := (b08.trans (Eb.of em2)).trans b9
        have tm09 := b09.tm rowD
        have ho3' : IsI H9 va o3 := (ho3.ex (Ex.new (o := .lst (qs2.map V.ref)) hl2)).tm (b9.tm row9)
        have hv9 := ((hv.ex e3).ex eD).tm tm09
        refine ⟨_, rfl, _, _, _, hv9, rfl, atI_nat (j := 0) rfl, (n : Int), rfl, by omega, by omega, fun D hD => ?_⟩
        have toN : ((n : Int)).toNat = n := by omega
        rw [toN]
        have neD : r ≠ D := fun z => row9'.ne (z ▸ hD)
        refine comp_row (walk_range (lo := 0) (n := n)) hD (RowS r sa) (fun i y => ∃ x : Nat, y = .int (x : Int) ∧ x < k) (fun _ => False) (by omega) row9'.ne row9' (fun H H' hh ⟨i1, i2, i3, g, gg⟩ => ⟨i1, i2, i3, hh _ _ neD g, gg⟩) (fun _ _ _ => trivial) yfn_ex ?_ ?_
        · rintro i x Ha Hb hi ea ra hy Q1 Q2 k1 k2
          obtain ⟨rfl, rfl⟩ := yrange hy
          refine ⟨rfl, ?_⟩
          exact iteT (B := Q2 Hb) ⟨_, rfl, _, rfl, r, sa, ns, k, rfl, ra, scD.eb (b09.trans ea), by omega, by omega, fun x Hc bc rc hx => k1 _ _ bc rc ⟨x, rfl, hx⟩⟩
        · intro os Ha ba ra hos outs
          obtain ⟨len, hlo⟩ := outs.all
          obtain ⟨o4, rfl, vdo4⟩ := vd_of (n := n) (k := k) len fun y hy => by
            obtain ⟨i, hi, e⟩ := List.getElem_of_mem hy
            exact hlo i y (by rw [← e]; exact List.getElem?_eq_getElem hi)
          refine ⟨D, _, rfl, SqL.of hos, fun lt hlt => ?_⟩
          refine ⟨by show 2 ≤ sizeLine; decide, fun l5 hl5 => ?_⟩
          have en1 := Ex.new (o := .tup (iv o4)) hlt
          have en2 := en1.trans (Ex.new (o := .lst [va, .ref lt]) hl5)
          have rowb := ra.ex en2
          have nel5 : l5 ≠ r := fun z => (ra.ex en1).ne (z ▸ hl5)
          have b0a := (b09.trans ba).trans (Eb.of en2)
          refine ⟨r, sa, l5, ns, [va, .ref lt], rfl, rowb, scD.eb b0a, nel5, upd_same, by show 1 ≤ 2; decide, by show 2 ≤ 100000; decide, fun vb Hb bb rowb' hvb => ?_⟩
          have b0b := b0a.trans bb
          have tm0b := b0b.tm rowD
          obtain ⟨o5, ho5, vdo5⟩ : ∃ o, IsI Hb vb o ∧ VD n k o := by
            simp only [List.mem_cons, List.not_mem_nil, or_false] at hvb
            rcases hvb with rfl | rfl
            · exact ⟨o3, ((ho3'.tm (ba.tm row9')).ex en2).tm (bb.tm rowb), vdo3⟩
            · exact ⟨o4, IsI.tm (IsT.mk ((Ex.new (o := .lst [va, .ref lt]) hl5) _ _ upd_same)) (bb.tm rowb), vdo4⟩
          -- the wish
          obtain ⟨tb, rfl, htb⟩ := id ho5
          refine ⟨_, rfl, tb, rfl, ⟨_, SqT.of htb⟩, fun D2 hD2 => ?_⟩
          have neD2 : r ≠ D2 := fun z => rowb'.ne (z ▸ hD2)
          have ntb : tb ≠ r := fun z => by
            obtain ⟨i1, i2, i3, g, _⟩ := rowb'
            rw [z, g] at htb
            cases htb
          have vl5 := vdo5.len
          refine comp_row (walk_tup (K := K) (a := tb) (xs := iv o5)) hD2 (RowS r sa) (fun i y => y = .non ∨ ∃ x : Nat, y = .int (x : Int) ∧ x < k) (fun _ => False) (by rw [iv_len]; omega) rowb'.ne rowb' (fun H H' hh ⟨i1, i2, i3, g, gg⟩ => ⟨i1, i2, i3, hh _ _ neD2 g, gg⟩) (fun H' eb _ => SqT.of (eb _ _ ntb htb)) yat_ex ?_ ?_
          · rintro i x _ Hd hi ed rd ⟨rfl, hx⟩ Q1 Q2 k1 k2
            refine ⟨rfl, ?_⟩
            refine iteT (B := Q2 Hd) ⟨_, rfl, r, sa, ns, 2, rfl, rd, scD.eb (b0b.trans ed), by decide, by decide, fun z He be re hz => ?_⟩
            refine ⟨rfl, _, rfl, ?_⟩
            refine ite2 (fun c0 => ?_) (fun c0 => ?_)
            · refine ⟨_, rfl, k1 _ _ be re (.inr ?_)⟩
              have hi' : i < o5.length := by rw [iv_len] at hi; exact hi
              rw [iv_get hi'] at hx
              cases hx
              exact ⟨_, rfl, vdo5.get (by omega)⟩
            · exact k1 _ _ be re (.inl rfl)
          · intro os2 Hd bd rd hos2 outs2
            obtain ⟨len2, hlo2⟩ := outs2.all
            obtain ⟨ws, rfl, wi⟩ := ws_of (n := n) (k := k) (by rw [len2, iv_len]; exact vl5) fun y hy => by
              obtain ⟨i, hi, e⟩ := List.getElem_of_mem hy
              exact hlo2 i y (by rw [← e]; exact List.getElem?_eq_getElem hi)
            refine ⟨D2, _, rfl, SqL.of hos2, fun tw htw => ?_⟩
            have ep1 := Ex.new (o := .tup (wv ws)) htw
            obtain ⟨He, eHe⟩ : ∃ He, He = upd Hd tw (.tup (wv ws)) := ⟨_, rfl⟩
            have twe : He tw = some (.tup (wv ws)) := by rw [eHe]; exact upd_same
            rw [← eHe] at ep1 ⊢
            have b0e := (b0b.trans bd).trans (Eb.of ep1)
            have tm0e := b0e.tm rowD
            have lke : He lk = some (.dT kvs) := b0e _ _ nlr lkD
            have hve := ((hv.ex e3).ex eD).tm tm0e
            have tmf : ∀ {o}, Tm He (upd He lk o) := Tm.dT lke
            refine ⟨lk, .dT kvs, lke, True.intro, fun od => ?_⟩
            obtain ⟨Hf, eHf⟩ : ∃ Hf, Hf = upd He lk (.frz od (.dT kvs)) := ⟨_, rfl⟩
            have lkf : Hf lk = some (.frz od (.dT kvs)) := by rw [eHf]; exact upd_same
            have tmf' : Tm He Hf := by rw [eHf]; exact tmf
            have twf : IsT Hf (.ref tw) (wv ws) := (IsT.mk twe).tm tmf'
            have hvf := hve.tm tmf'
            have backf : ∀ {H' : Hp}, Ex Hf H' → Ex He (upd H' lk (.dT kvs)) := fun {H'} e b u hb => by
              by_cases q : b = lk
              · rw [q] at hb ⊢
                rw [lke] at hb
                cases hb
                exact upd_same
              · rw [upd_ne q]
                exact e _ _ (by rw [eHf, upd_ne q]; exact hb)
            rw [← eHf]
            have wl : (wv ws).length = n := by unfold wv; rw [List.length_map]; exact wi.1
            refine ⟨_, rfl, lk, od, kvs, rfl, lkf, fun D3 hD3 => ?_⟩
            refine comp_it (walk_keysT (kvs := kvs)) hD3 (fun i y _ => ∃ p, F[i]? = some p ∧ fitb ws p.1 = true ∧ y = .int ((p.2 : Nat) : Int)) (fun i => ∃ p, F[i]? = some p ∧ fitb ws p.1 = false) (by omega) (fun _ e => e _ _ lkf) (fun i H x H' h => by rw [h.1]; exact Same.refl _) (fun _ _ _ _ _ _ _ h => h) ?_ ?_
            · rintro i x _ H5' hi ef _ ⟨rfl, kk', vv, qa, hkv, rfl, hqa⟩ Q1 Q2 k1 k2
              obtain ⟨p, hp, hk1, hv1⟩ := all2_get kf hkv
              have hpm := List.mem_of_getElem? hp
              cases hv1
              have hk1 : kk' = ik p.1 := hk1
              subst hk1
              rw [ik_kV] at hqa
              have vp := A.vd p hpm
              have hq : IsI H5' (.ref qa) p.1 := IsT.mk hqa
              refine ⟨rfl, ?_⟩
              refine ⟨_, rfl, _, _, _, hvf.ex ef, rfl, atI_nat (j := 0) rfl, (n : Int), rfl, by omega, by omega, fun D4 hD4 => ?_⟩
              rw [toN]
              refine comp_it (walk_range (lo := 0) (n := n)) hD4 (fun i y _ => y = .int (i : Int) ∧ bad ws p.1 i = true) (fun i => bad ws p.1 i = false) (by omega) (fun _ _ => trivial) yfn_ex (fun _ _ _ _ _ _ _ h => h) ?_ ?_
              · rintro j xx _ H6' hj e6' _ hy Q1' Q2' k1' k2'
                obtain ⟨rfl, rfl⟩ := yrange hy
                refine ⟨rfl, ?_⟩
                have ef6 := ef.trans e6'
                obtain ⟨o, ho⟩ : ∃ o, ws[j]? = some o := ⟨_, List.getElem?_eq_getElem (by have := wi.1; omega)⟩
                cases o with
                | none =>
                  have hat : (wv ws)[j]? = some .non := by unfold wv; rw [List.getElem?_map, ho]; rfl
                  refine ⟨_, rfl, _, rfl, _, _, _, twf.ex ef6, rfl, atI_nat hat, rfl, _, rfl, ?_⟩
                  refine iteF ?_
                  refine iteF (k2' _ (Same.refl _) ?_)
                  unfold bad
                  rw [ho]
                | some m =>
                  have hat : (wv ws)[j]? = some (.int (m : Int)) := by unfold wv; rw [List.getElem?_map, ho]; rfl
                  refine ⟨_, rfl, _, rfl, _, _, _, twf.ex ef6, rfl, atI_nat hat, rfl, _, rfl, ?_⟩
                  refine iteT ?_
                  refine ⟨_, rfl, _, rfl, _, _, _, twf.ex ef6, rfl, atI_nat hat, _, rfl, _, rfl, _, _, _, hq.ex e6', rfl, atI_d vp hj, rfl, _, rfl, ?_⟩
                  by_cases c0 : m = p.1.getD j 0
                  · rw [decide_eq_true (show V.int (m : Int) = V.int ((p.1.getD j 0 : Nat) : Int) by rw [← c0])]
                    refine iteF (k2' _ (Same.refl _) ?_)
                    unfold bad
                    rw [ho]
                    simp only [c0, decide_true, Bool.not_true]
                  · rw [decide_eq_false (show ¬ V.int (m : Int) = V.int ((p.1.getD j 0 : Nat) : Int) from fun z => c0 (by have := V.int.inj z; omega))]
                    refine iteT ⟨_, rfl, k1' _ _ (Same.refl _) ⟨rfl, ?_⟩⟩
                    unfold bad
                    rw [ho]
                    simp only [c0, decide_false, Bool.not_false]
              · intro os3 H6' e6' hos3 outs3
                have eo := outs3.filter (f := fun i => .int (i : Int)) (fun i y h => h) (fun i h => h)
                rw [← wi.1] at eo
                refine ⟨Nat.zero_le _, fun r' hr' => ?_⟩
                have e7' := e6'.trans (Ex.new hr' (o := .lst []))
                have em : os3.isEmpty = fitb ws p.1 := by
                  rw [eo]
                  unfold fitb
                  cases (List.range ws.length).filter (bad ws p.1) <;> rfl
                refine ⟨D4, r', os3, rfl, rfl, (Ex.new hr') _ _ hos3, upd_same, ?_, _, rfl, ?_⟩
                · refine .inl ⟨((List.range ws.length).filter (bad ws p.1)).map fun i : Nat => (i : Int), ?_⟩
                  rw [eo, List.map_map]
                  rfl
                rw [em]
                rcases c0 : fitb ws p.1 with _ | _
                · exact iteF (k2 _ e7' ⟨p, hp, c0⟩)
                · obtain ⟨vv, hvv, rv⟩ := kf.get A.nd hpm
                  cases rv
                  refine iteT ⟨_, rfl, _, rfl, lk, .int (p.2 : Int), rfl, by rw [← hvv]; exact dget_r (.inr ⟨od, (ef.trans e7') _ _ lkf⟩) (hq.ex e7'), k1 _ _ e7' ⟨p, hp, c0, rfl⟩⟩
            · intro os3 H5' ef hos3 outs3
              have al9 : All2 (fun v p => v = V.int ((p.2 : Nat) : Int)) os3 ((F.take kvs.length).filter fun p => fitb ws p.1) := outs3.pick (by omega)
                (fun i y p hp ⟨p', h1, h2, h3⟩ => by
                  rw [hp] at h1
                  cases h1
                  exact ⟨h3, h2⟩)
                (fun i p hp ⟨p', h1, h2⟩ => by
                  rw [hp] at h1
                  cases h1
                  exact h2)
              rw [kl, List.take_length] at al9
              obtain ⟨vals, hvals⟩ : ∃ vals, vals = (F.filter fun p => fitb ws p.1).map (·.2) := ⟨_, rfl⟩
              have eos := all2_iv al9
              rw [← hvals] at eos
              subst eos
              have mv : ∀ j, j ∈ vals ↔ ∃ e, Dst (Ef as k) d e j ∧ Fits ws e := fun j => by
                rw [hvals, List.mem_map]
                constructor
                · rintro ⟨p, hp, rfl⟩
                  obtain ⟨h1, h2⟩ := List.mem_filter.mp hp
                  exact ⟨p.1, (A.iff _ _).mp h1, fitb_iff.mp h2⟩
                · rintro ⟨e, h1, h2⟩
                  exact ⟨(e, j), List.mem_filter.mpr ⟨(A.iff _ _).mpr h1, fitb_iff.mpr h2⟩, rfl⟩
              have nD3 : D3 ≠ lk := fun z => by rw [z, lkf] at hD3; cases hD3
              refine ⟨ef _ _ lkf, ?_⟩
              obtain ⟨Hg, eHg⟩ : ∃ Hg, Hg = upd H5' lk (.dT kvs) := ⟨_, rfl⟩
              have eg : Ex He Hg := by rw [eHg]; exact backf ef
              have d3g : Hg D3 = some (.lst (iv vals)) := by rw [eHg, upd_ne nD3]; exact hos3
              rw [← eHg]
              have tm0g := tm0e.trans (Tm.of eg)
              refine ⟨_, rfl, _, rfl, _, rfl, _, rfl, v, .ref td, .ref tw, n, k, as, d, ws, rfl, hwD.tm tm0g, gw, hdD.tm tm0g, vd, IsT.mk (eg _ _ twe), wi, fun hno Hh eh => ?_, fun m Hh eh hex hmin => ?_⟩
              · have c0 : vals = [] := by
                  cases hv0 : vals with
                  | nil => rfl
                  | cons x xs =>
                    obtain ⟨e, he, hf⟩ := (mv x).mp (by rw [hv0]; exact List.mem_cons_self)
                    exact absurd hf (hno e x he)
                refine ⟨_, rfl, Nat.zero_le _, fun r' hr' => ?_⟩
                refine ⟨D3, r', _, rfl, rfl, (Ex.new hr') _ _ (eh _ _ d3g), upd_same, sim_iv _, _, rfl, ?_⟩
                rw [c0]
                refine iteF ?_
                exact .inl ⟨.non, .non, rfl, .inl ⟨rfl, rfl⟩, fun H' _ => q H'⟩
              · have hm := (mv m).mpr hex
                have c0 : vals ≠ [] := fun z => by rw [z] at hm; cases hm
                refine ⟨_, rfl, Nat.zero_le _, fun r' hr' => ?_⟩
                refine ⟨D3, r', _, rfl, rfl, (Ex.new hr') _ _ (eh _ _ d3g), upd_same, sim_iv _, _, rfl, ?_⟩
                have : (!(iv vals).isEmpty) = true := by
                  cases hv0 : vals with
                  | nil => exact absurd hv0 c0
                  | cons a b => rfl
                rw [this]
                refine iteT ⟨_, rfl, D3, ii vals, rfl, by rw [iv_ii]; exact SqL.of ((Ex.new hr') _ _ (eh _ _ d3g)), ?_, fun m' hm' hmin' => ?_⟩
                · unfold ii
                  rw [List.length_map]
                  exact List.length_pos_iff.mpr c0
                · obtain ⟨x, hx, rfl⟩ := List.mem_map.mp hm'
                  obtain ⟨e, he, hf⟩ := (mv x).mp hx
                  have h1 := hmin e x he hf
                  have h2 := hmin' (m : Int) (List.mem_map.mpr ⟨m, hm, rfl⟩)
                  have : m = x := by omega
                  subst this
                  exact .inl ⟨.int (m : Int), .int (m : Int), rfl, .inr ⟨_, rfl, rfl⟩, fun H' _ => q H'⟩
    · have hne : (!rs.isEmpty) = true := by
        cases al with
        | nil => exact absurd rfl hR
        | cons _ _ => rfl
      rw [hne]
      refine iteT ⟨_, fun σ' H' z => z, ?_⟩
      refine ⟨Nat.zero_le _, fun lm hlm => ?_⟩
      obtain ⟨H2', eH2⟩ : ∃ H2, H2 = upd (upd H0 l0 (.lst [])) lm (.lst []) := ⟨_, rfl⟩
      rw [← eH2]
      have e2 : Ex H0 H2' := by rw [eH2]; exact e1.trans (Ex.new hlm)
      have g1 : H2' lw = some (.dT wk) := e2 _ _ h1
      have g2 : H2' lr = some (.lst rs) := e2 _ _ h2
      have g3 : H2' lm = some (.lst []) := by rw [eH2]; exact upd_same
      have nfm : lw ≠ lm := fun z => by rw [← z, e1 _ _ h1] at hlm; cases hlm
      have nrm : lr ≠ lm := fun z => by rw [← z, e1 _ _ h2] at hlm; cases hlm
      have hlm0 : H3 lm = none := by
        rcases e : H3 lm with _ | u
        · rfl
        · rw [(e0.trans e1) _ _ e] at hlm
          cases hlm
      have nfr2 : lw ≠ lr := fun z => by rw [z, h2] at h1; cases h1
      obtain ⟨G, hG⟩ : ∃ G : Hp → WD → List (List Nat) → Prop, G = fun H' W' M => ∃ (wk' : List (List L2.Key × V)) (mv : List V), Ex H3 H' ∧ Tm H2' H' ∧ H' lw = some (.dT wk') ∧ H' lr = some (.lst rs) ∧ H' lm = some (.lst mv) ∧ KV (IsW H') wk' W' ∧ All2 (IsI H') mv M ∧ WB as k d L W' M ∧ W'.length = W.length + M.length := ⟨_, rfl⟩
      have G0 : G H2' W [] := by rw [hG]; exact ⟨wk, [], e0.trans e2, Tm.refl _, g1, g2, g3, kw.mp fun _ _ h => h.ex e2, .nil, I.opened, rfl⟩
      have al2 : All2 (IsI H2') rs rows := Paired.mapP al fun _ _ h => h.ex e2
      have said : ∀ x, (∃ j, Dst (Ef as k) d x j) → ∃ j, Dst (Ef as k) d x j ∧ valV kvs (ik x) = some (.int (j : Int)) ∧ j < 4096 := fun x ⟨j, hj⟩ => by
        have hm := (A.iff x j).mpr hj
        obtain ⟨vv, hvv, rv⟩ := kf.get A.nd hm
        cases rv
        exact ⟨j, hj, hvv, A.lt _ hm⟩
      refine ⟨_, rfl, lr, rfl, ⟨_, SqL.of g2⟩, ?_⟩
      refine for_it (walk_list (K := K) (a := lr) (xs := rs)) (fun i σ H' => ∃ (W' : WD) (M : List (List Nat)) (b c e : Option V), σ = [some (.ref sa), some (.ref r), some v, some (.int (k : Int)), some (.ref td), some (.ref lk), some (.ref lw), some (.ref lr), some (.ref lm), b, c, e, none, none, none, none, none, none] ∧ G H' W' M ∧ (∀ p z, p ∈ rows.take i → z ∈ as → Dst (Ef as k) d (stp k p z) (L + 1) → Low k W' p z))
        ⟨W, [], b, c, e, rfl, G0, fun p x hp => by simp at hp⟩ (fun i σ H' _ ⟨_, _, _, _, _, _, g, _⟩ => by rw [hG] at g; obtain ⟨_, _, _, _, _, z, _⟩ := g; exact SqL.of z) ?_ ?_
      · rintro i x σ _ H4 hi ⟨W', M, b, c, e, rfl, g, done⟩ ⟨rfl, hx⟩
        obtain ⟨here, hhere, hxh⟩ := all2_get al2 hx
        have hL : Dst (Ef as k) d here L := (I.mem here).mp (List.mem_of_getElem? hhere)
        have vh := hvw _ _ hL.1
        obtain ⟨Lh, hLh, vLh, ltL⟩ := said here ⟨L, hL⟩
        have eLh := hLh.uniq hL
        subst eLh
        have ex3 : Ex H3 H4 := by rw [hG] at g; obtain ⟨_, _, z, _⟩ := g; exact z
        refine ⟨_, rfl, _, _, _, (hv.ex e3).ex ex3, rfl, atI_nat (j := 1) rfl, ta, rfl, ⟨_, SqT.of (ex3 _ _ (e3 _ _ hta))⟩, ?_⟩
        refine for_it (walk_tup (K := K) (a := ta) (xs := us)) (fun j σ H' => ∃ (W' : WD) (M : List (List Nat)) (c e : Option V), σ = [some (.ref sa), some (.ref r), some v, some (.int (k : Int)), some (.ref td), some (.ref lk), some (.ref lw), some (.ref lr), some (.ref lm), some x, c, e, none, none, none, none, none, none] ∧ G H' W' M ∧ (∀ p z, p ∈ rows.take i → z ∈ as → Dst (Ef as k) d (stp k p z) (Lh + 1) → Low k W' p z) ∧ (∀ z, z ∈ as.take j → Dst (Ef as k) d (stp k here z) (Lh + 1) → Low k W' here z))
          ⟨W', M, c, e, rfl, g, done, fun a ha => by simp at ha⟩ (fun j σ H' _ ⟨_, _, _, _, _, g, _⟩ => by rw [hG] at g; obtain ⟨_, _, z, _⟩ := g; exact SqT.of (z _ _ (e3 _ _ hta))) ?_ ?_
        · rintro j xa σ _ H5 hj ⟨W1, M1, c, e, rfl, g', done', dn2⟩ ⟨rfl, hxa⟩
          obtain ⟨ar, har, hxar⟩ := all2_get hall hxa
          have ham := List.mem_of_getElem? har
          rw [hG] at g'
          obtain ⟨wk1, mv, i0, i1, i2, i3, i4, i5, i6, J, fl⟩ := g'
          have take1 : ∀ a, a ∈ as.take (j + 1) → a ∈ as.take j ∨ a = ar := fun a ha => by
            rw [List.take_add_one, har] at ha
            rcases List.mem_append.mp ha with ha | ha
            · exact .inl ha
            · exact .inr (List.mem_singleton.mp ha)
          have hxar5 := IsT.ex (IsT.ex hxar e3) i0
          refine ⟨_, rfl, _, rfl, _, rfl, x, xa, n, k, as, here, ar, rfl, gw, hxh.tm i1, vh, hxar5, ham, fun u H6 e6 hu6 => ?_⟩
          have hx6 : IsI H6 x here := (hxh.tm i1).ex e6
          have hxar6 := IsT.ex hxar5 e6
          have ex6 := i0.trans e6
          have i6' : All2 (IsI H6) mv M1 := Paired.mapP i6 fun _ _ h => h.ex e6
          have i5' : KV (IsW H6) wk1 W1 := i5.mp fun _ _ h => h.ex e6
          have lk6 := ex6 _ _ hk3
          obtain ⟨jt, _, djt⟩ := hL.next (⟨ar, ham, rfl⟩ : Ef as k here (stp k here ar))
          obtain ⟨jt', hjt, vjt, _⟩ := said _ ⟨jt, djt⟩
          refine ⟨_, rfl, _, rfl, lk, .int (jt' : Int), rfl, by rw [← vjt]; exact dget_i lk6 hu6, _, rfl, _, rfl, lk, .int (Lh : Int), rfl, by rw [← vLh]; exact dget_i lk6 hx6, _, _, rfl, rfl, rfl, _, rfl, ?_⟩
          by_cases c0 : jt' = Lh + 1
          · rw [decide_eq_true (show V.int (jt' : Int) = V.int ((Lh : Int) + 1) by rw [c0, Int.natCast_add]; rfl)]
            rw [c0] at hjt
            refine iteT ?_
            obtain ⟨uw, huw, luw, luwl⟩ := J.at hL
            obtain ⟨vu, hvu, rvu⟩ := i5'.get J.nd huw
            have l4096 : W1.length ≤ 4096 := wd_le gw J.nd (wvd J)
            have hle : wk1.length < sizeLine := by rw [i5.len]; exact sz6 l4096
            have mvl : mv.length < sizeLine := by
              rw [Paired.length i6]
              exact sz6 (by omega)
            have lw6 := e6 _ _ i2
            -- a set-up for the three ends
            by_cases c1 : stp k here ar ∈ W1.map (·.1)
            · obtain ⟨w0, hw0⟩ := mem_keys.mp c1
              obtain ⟨vw, hvw0, rvw⟩ := i5'.get J.nd hw0
              refine ⟨_, rfl, _, rfl, lw, _, rfl, dget_i lw6 hu6, _, rfl, ?_⟩
              rw [hvw0]
              refine iteF ?_
              refine ⟨_, rfl, _, rfl, lw, _, rfl, dget_i lw6 hu6, _, rfl, ?_⟩
              rw [hvw0]
              refine iteF ?_
              obtain ⟨vus, hvus, auw, lvus⟩ := rvu.len
              refine ⟨_, rfl, _, rfl, lw, vu, rfl, by rw [← hvu]; exact dget_i lw6 hx6, _, rfl, by show 1 ≤ sizeLine; decide, fun t1 ht1 => ?_⟩
              have e7 := Ex.new (o := .tup [xa]) ht1
              refine ⟨vus, [xa], hvus.ex e7, IsT.mk upd_same, by rw [lvus, luwl]; show Lh + 1 ≤ 100000; omega, fun vc H8 e8 hc8 => ?_⟩
              have e68 := e7.trans e8
              have hcw : IsW H8 vc (uw ++ [ar]) := ⟨_, hc8, all2_snoc (Paired.mapP auw fun _ _ h => IsT.ex h e68) (IsT.ex hxar6 e68)⟩
              refine ⟨_, rfl, _, rfl, lw, vw, rfl, by rw [← hvw0]; exact dget_i (e68 _ _ lw6) (hu6.ex e68), uw ++ [ar], w0, hcw, rvw.ex e68, _, rfl, ?_⟩
              refine ite2 (fun c2 => ?_) (fun c2 => ?_)
              · refine ⟨_, rfl, _, rfl, lw, vu, rfl, by rw [← hvu]; exact dget_i (e68 _ _ lw6) (hx6.ex e68), _, rfl, by show 1 ≤ sizeLine; decide, fun t2 ht2 => ?_⟩
                have e9 := Ex.new (o := .tup [xa]) ht2
                have e69 := e68.trans e9
                refine ⟨vus, [xa], hvus.ex e69, IsT.mk upd_same, by rw [lvus, luwl]; show Lh + 1 ≤ 100000; omega, fun vd' Ha ea hca => ?_⟩
                have e6a := e69.trans ea
                have hcwa : IsW Ha vd' (uw ++ [ar]) := ⟨_, hca, all2_snoc (Paired.mapP auw fun _ _ h => IsT.ex h e6a) (IsT.ex hxar6 e6a)⟩
                refine ⟨_, rfl, _, rfl, lw, _, rfl, dput_i (e6a _ _ lw6) (hu6.ex e6a) hle, ?_⟩
                have tm : Tm Ha (upd Ha lw (.dT (putK wk1 (ik (stp k here ar)) vd'))) := Tm.dT (e6a _ _ lw6)
                have tm0 : Tm H6 (upd Ha lw (.dT (putK wk1 (ik (stp k here ar)) vd'))) := (Tm.of e6a).trans tm
                refine ⟨W1.map (fun p => if p.1 = stp k here ar then (stp k here ar, uw ++ [ar]) else p), M1, some xa, some u, rfl, ?_, fun p z hp hz hd => ?_, fun z hz hd => ?_⟩
                · rw [hG]
                  refine ⟨_, mv, Ex.mut (ex6.trans e6a) hlw, (i1.trans (Tm.of e6)).trans tm0, upd_same, ?_, ?_, KV.putOld (i5'.mp fun _ _ h => h.tm tm0) c1 (hcwa.tm tm), Paired.mapP i6' fun _ _ h => h.tm tm0, J.putOld hL huw ham hjt, by rw [List.length_map]; exact fl⟩
                  · rw [upd_ne (Ne.symm nfr2)]; exact (e6.trans e6a) _ _ i3
                  · rw [upd_ne (Ne.symm nfm)]; exact (e6.trans e6a) _ _ i4
                · have hpL : Dst (Ef as k) d p Lh := (I.mem p).mp (List.mem_of_mem_take hp)
                  exact (done' p z hp hz hd).old J.nd (fun q => by rw [q] at hpL; have := hpL.uniq hjt; omega) hw0 c2
                · rcases take1 z hz with hz | rfl
                  · exact (dn2 z hz hd).old J.nd (fun q => by have h' := hL; rw [q] at h'; have := h'.uniq hjt; omega) hw0 c2
                  · intro u2 hu2
                    rcases mem_chg hu2 with ⟨q, _⟩ | ⟨_, hm⟩
                    · have h' := hL
                      rw [q] at h'
                      have := h'.uniq hjt
                      omega
                    · have : u2 = uw := nd_uniq J.nd hm huw
                      subst this
                      exact ⟨_, chg_mem' c1, wle_refl _⟩
              · refine ⟨W1, M1, some xa, some u, rfl, ?_, done', fun z hz hd => ?_⟩
                · rw [hG]
                  exact ⟨wk1, mv, ex6.trans e68, (i1.trans (Tm.of e6)).trans (Tm.of e68), e68 _ _ lw6, (e6.trans e68) _ _ i3, (e6.trans e68) _ _ i4, i5'.mp fun _ _ h => h.ex e68, Paired.mapP i6' fun _ _ h => h.ex e68, J, fl⟩
                · rcases take1 z hz with hz | rfl
                  · exact dn2 z hz hd
                  · intro u2 hu2
                    have : u2 = uw := nd_uniq J.nd hu2 huw
                    subst this
                    exact ⟨w0, hw0, by unfold wle; exact Bool.eq_false_iff.mpr c2⟩
            · refine ⟨_, rfl, _, rfl, lw, _, rfl, dget_i lw6 hu6, _, rfl, ?_⟩
              rw [i5'.none c1]
              refine iteT ?_
              have lm6 := e6 _ _ i4
              refine ⟨_, rfl, .inl ⟨rfl, _, SqL.of lm6⟩, _, rfl, lm, _, _, rfl, rfl, lm6, mvl, ?_⟩
              obtain ⟨H7, eH7⟩ : ∃ H7, H7 = upd H6 lm (.lst (mv ++ [u])) := ⟨_, rfl⟩
              rw [← eH7]
              have ex7 : Ex H3 H7 := by rw [eH7]; exact Ex.mut ex6 hlm0
              have tm7 : Tm H6 H7 := by rw [eH7]; exact Tm.lst lm6
              have lw7 : H7 lw = some (.dT wk1) := by rw [eH7, upd_ne nfm]; exact lw6
              refine ⟨_, rfl, _, rfl, lw, _, rfl, dget_i lw7 (hu6.tm tm7), _, rfl, ?_⟩
              rw [i5'.none c1]
              refine iteT ?_
              refine iteT ?_
              obtain ⟨vus, hvus, auw, lvus⟩ := rvu.len
              refine ⟨_, rfl, _, rfl, lw, vu, rfl, by rw [← hvu]; exact dget_i lw7 (hx6.tm tm7), _, rfl, by show 1 ≤ sizeLine; decide, fun t2 ht2 => ?_⟩
              have e9 := Ex.new (o := .tup [xa]) ht2
              refine ⟨vus, [xa], (hvus.tm tm7).ex e9, IsT.mk upd_same, by rw [lvus, luwl]; show Lh + 1 ≤ 100000; omega, fun vd' Ha ea hca => ?_⟩
              have e7a := e9.trans ea
              have tm6a : Tm H6 Ha := tm7.trans (Tm.of e7a)
              have hcwa : IsW Ha vd' (uw ++ [ar]) := ⟨_, hca, all2_snoc (Paired.mapP auw fun _ _ h => IsT.tm h tm6a) (IsT.tm hxar6 tm6a)⟩
              refine ⟨_, rfl, _, rfl, lw, _, rfl, dput_i (e7a _ _ lw7) ((hu6.tm tm7).ex e7a) hle, ?_⟩
              have tm : Tm Ha (upd Ha lw (.dT (putK wk1 (ik (stp k here ar)) vd'))) := Tm.dT (e7a _ _ lw7)
              have tm0 := tm6a.trans tm
              refine ⟨W1 ++ [(stp k here ar, uw ++ [ar])], M1 ++ [stp k here ar], some xa, some u, rfl, ?_, fun p z hp hz hd => ?_, fun z hz hd => ?_⟩
              · rw [hG]
                refine ⟨_, mv ++ [u], Ex.mut (ex7.trans e7a) hlw, (i1.trans (Tm.of e6)).trans tm0, upd_same, ?_, ?_, KV.putNew (i5'.mp fun _ _ h => h.tm tm0) c1 (hcwa.tm tm), all2_snoc (Paired.mapP i6' fun _ _ h => h.tm tm0) (hu6.tm tm0), J.putNew hL huw ham hjt c1, by rw [List.length_append, List.length_append, fl]; rfl⟩
                · rw [upd_ne (Ne.symm nfr2)]
                  refine e7a _ _ ?_
                  rw [eH7, upd_ne nrm]
                  exact e6 _ _ i3
                · rw [upd_ne (Ne.symm nfm)]
                  refine e7a _ _ ?_
                  rw [eH7]
                  exact upd_same
              · have hpL : Dst (Ef as k) d p Lh := (I.mem p).mp (List.mem_of_mem_take hp)
                exact (done' p z hp hz hd).new (fun q => by rw [q] at hpL; have := hpL.uniq hjt; omega)
              · rcases take1 z hz with hz | rfl
                · exact (dn2 z hz hd).new (fun q => by have h' := hL; rw [q] at h'; have := h'.uniq hjt; omega)
                · intro u2 hu2
                  rcases List.mem_append.mp hu2 with hm | hm
                  · have : u2 = uw := nd_uniq J.nd hm huw
                    subst this
                    exact ⟨_, List.mem_append_right _ (List.mem_singleton.mpr rfl), wle_refl _⟩
                  · have q := (Prod.mk.inj (List.mem_singleton.mp hm)).1
                    have h' := hL
                    rw [q] at h'
                    have := h'.uniq hjt
                    omega
          · rw [decide_eq_false (show ¬ V.int (jt' : Int) = V.int ((Lh : Int) + 1) from fun z => c0 (by have := V.int.inj z; omega))]
            refine iteF ⟨W1, M1, some xa, some u, rfl, ?_, done', fun z hz hd => ?_⟩
            · rw [hG]
              exact ⟨wk1, mv, ex6, i1.trans (Tm.of e6), e6 _ _ i2, e6 _ _ i3, e6 _ _ i4, i5', i6', J, fl⟩
            · rcases take1 z hz with hz | rfl
              · exact dn2 z hz hd
              · exact absurd (hjt.uniq hd) c0
        · rintro σ H5 ⟨W1, M1, c, e, rfl, g', done', dn2⟩
          refine ⟨W1, M1, _, c, e, rfl, g', fun p z hp hz hd => ?_⟩
          rw [List.take_add_one, hhere] at hp
          rcases List.mem_append.mp hp with hp | hp
          · exact done' p z hp hz hd
          · have : p = here := List.mem_singleton.mp hp
            subst this
            refine dn2 z ?_ hd
            rw [List.take_of_length_le (by rw [Paired.length hall]; exact Nat.le_refl _)]
            exact hz
      · rintro σ H4 ⟨W', M, b, c, e, rfl, g, done⟩
        rw [hG] at g
        obtain ⟨wk1, mv, i0, i1, i2, i3, i4, i5, i6, J, fl⟩ := g
        rw [List.take_of_length_le (by rw [Paired.length al]; exact Nat.le_refl _)] at done
        have I' := J.close (fun p z hp hz hd => done p z ((I.mem p).mpr hp) hz hd)
        refine ⟨_, rfl, msW W' M, ?_, L + 1, W', M, wk1, mv, lm, _, b, c, e, rfl, i0, i2, i4, i5, i6, I', rfl⟩
        have h2 := wd_le gw J.nd (wvd J)
        unfold msW
        rw [if_neg hR]
        by_cases c0 : M = []
        · rw [if_pos c0]
          omega
        · rw [if_neg c0]
          have := List.length_pos_iff.mpr c0
          omega
end
end CK

namespace CK
open PySem PySem.Spec PyProof.Rows L2 CA
/-- what the top has written -/
theorem top_facts {l : PySem.W.OpenLaw} {w : World} {K : PySem.W.Frag} {h : Heap} {mg : Str → Option Value} {fa f0 f1 f2 f3 f4 f5 f6 f7 f8 f9 f10 f11 f12 f13 f14 f15 f16 f17 f18 f19 f20 f21 f22 f23 f24 f25 f26 f27 f28 f29 f30 f31 f32 f33 : Addr} (X : K.In h) (G : h.Ns mainGlobals mg) (hfa : mg "law" = some (.ref fa))
    {od0 an0 : Option Addr} {sl0 : Array (Option Value)} {oc0 kV0 dc0 pm0 cd0 ct0 : Value}
    {od1 an1 : Option Addr} {sl1 : Array (Option Value)} {oc1 kV1 dc1 pm1 cd1 ct1 : Value}
    {od2 an2 : Option Addr} {sl2 : Array (Option Value)} {oc2 kV2 dc2 pm2 cd2 ct2 : Value}
    {od3 an3 : Option Addr} {sl3 : Array (Option Value)} {oc3 kV3 dc3 pm3 cd3 ct3 : Value}
    {od4 an4 : Option Addr} {sl4 : Array (Option Value)} {oc4 kV4 dc4 pm4 cd4 ct4 : Value}
    {od5 an5 : Option Addr} {sl5 : Array (Option Value)} {oc5 kV5 dc5 pm5 cd5 ct5 : Value}
    {od6 an6 : Option Addr} {sl6 : Array (Option Value)} {oc6 kV6 dc6 pm6 cd6 ct6 : Value}
    {od7 an7 : Option Addr} {sl7 : Array (Option Value)} {oc7 kV7 dc7 pm7 cd7 ct7 : Value}
    {od8 an8 : Option Addr} {sl8 : Array (Option Value)} {oc8 kV8 dc8 pm8 cd8 ct8 : Value}
    {od9 an9 : Option Addr} {sl9 : Array (Option Value)} {oc9 kV9 dc9 pm9 cd9 ct9 : Value}
    {od10 an10 : Option Addr} {sl10 : Array (Option Value)} {oc10 kV10 dc10 pm10 cd10 ct10 : Value}
    {od11 an11 : Option Addr} {sl11 : Array (Option Value)} {oc11 kV11 dc11 pm11 cd11 ct11 : Value}
    {od12 an12 : Option Addr} {sl12 : Array (Option Value)} {oc12 kV12 dc12 pm12 cd12 ct12 : Value}
    {od13 an13 : Option Addr} {sl13 : Array (Option Value)} {oc13 kV13 dc13 pm13 cd13 ct13 : Value}
    {od14 an14 : Option Addr} {sl14 : Array (Option Value)} {oc14 kV14 dc14 pm14 cd14 ct14 : Value}
    {od15 an15 : Option Addr} {sl15 : Array (Option Value)} {oc15 kV15 dc15 pm15 cd15 ct15 : Value}
    {od16 an16 : Option Addr} {sl16 : Array (Option Value)} {oc16 kV16 dc16 pm16 cd16 ct16 : Value}
    {od17 an17 : Option Addr} {sl17 : Array (Option Value)} {oc17 kV17 dc17 pm17 cd17 ct17 : Value}
    {od18 an18 : Option Addr} {sl18 : Array (Option Value)} {oc18 kV18 dc18 pm18 cd18 ct18 : Value}
    {od19 an19 : Option Addr} {sl19 : Array (Option Value)} {oc19 kV19 dc19 pm19 cd19 ct19 : Value}
    {od20 an20 : Option Addr} {sl20 : Array (Option Value)} {oc20 kV20 dc20 pm20 cd20 ct20 : Value}
    {od21 an21 : Option Addr} {sl21 : Array (Option Value)} {oc21 kV21 dc21 pm21 cd21 ct21 : Value}
    {od22 an22 : Option Addr} {sl22 : Array (Option Value)} {oc22 kV22 dc22 pm22 cd22 ct22 : Value}
    {od23 an23 : Option Addr} {sl23 : Array (Option Value)} {oc23 kV23 dc23 pm23 cd23 ct23 : Value}
    {od24 an24 : Option Addr} {sl24 : Array (Option Value)} {oc24 kV24 dc24 pm24 cd24 ct24 : Value}
    {od25 an25 : Option Addr} {sl25 : Array (Option Value)} {oc25 kV25 dc25 pm25 cd25 ct25 : Value}
    {od26 an26 : Option Addr} {sl26 : Array (Option Value)} {oc26 kV26 dc26 pm26 cd26 ct26 : Value}
    {od27 an27 : Option Addr} {sl27 : Array (Option Value)} {oc27 kV27 dc27 pm27 cd27 ct27 : Value}
    {od28 an28 : Option Addr} {sl28 : Array (Option Value)} {oc28 kV28 dc28 pm28 cd28 ct28 : Value}
    {od29 an29 : Option Addr} {sl29 : Array (Option Value)} {oc29 kV29 dc29 pm29 cd29 ct29 : Value}
    {od30 an30 : Option Addr} {sl30 : Array (Option Value)} {oc30 kV30 dc30 pm30 cd30 ct30 : Value}
    {od31 an31 : Option Addr} {sl31 : Array (Option Value)} {oc31 kV31 dc31 pm31 cd31 ct31 : Value}
    {od32 an32 : Option Addr} {sl32 : Array (Option Value)} {oc32 kV32 dc32 pm32 cd32 ct32 : Value}
    {od33 an33 : Option Addr} {sl33 : Array (Option Value)} {oc33 kV33 dc33 pm33 cd33 ct33 : Value}
    {t0 t1 t2 t3 : Tok}
    (a0 : PySem.W.nsIn K mainGlobals "is_in" = some (some (.ref f0))) (l0 : K.lookup f0 = some ⟨oc0, od0, .func (PySem.W.fnOf "is_in" "is_in" (defArgs s_is_in) (defBody s_is_in) (defScope s_is_in) .none kV0 dc0 pm0 an0 cd0 ct0), sl0⟩) (c0 : PySem.W.codeIn K cd0 "is_in" = true) (k0 : PySem.W.keepIn K (.ref f0) = true)
    (a1 : PySem.W.nsIn K mainGlobals "gcd" = some (some (.ref f1))) (l1 : K.lookup f1 = some ⟨oc1, od1, .func (PySem.W.fnOf "gcd" "gcd" (defArgs s_gcd) (defBody s_gcd) (defScope s_gcd) .none kV1 dc1 pm1 an1 cd1 ct1), sl1⟩) (c1 : PySem.W.codeIn K cd1 "gcd" = true) (k1 : PySem.W.keepIn K (.ref f1) = true)
    (a2 : PySem.W.nsIn K mainGlobals "prime_to" = some (some (.ref f2))) (l2 : K.lookup f2 = some ⟨oc2, od2, .func (PySem.W.fnOf "prime_to" "prime_to" (defArgs s_prime_to) (defBody s_prime_to) (defScope s_prime_to) .none kV2 dc2 pm2 an2 cd2 ct2), sl2⟩) (c2 : PySem.W.codeIn K cd2 "prime_to" = true) (k2 : PySem.W.keepIn K (.ref f2) = true)
    (a3 : PySem.W.nsIn K mainGlobals "led_from" = some (some (.ref f3))) (l3 : K.lookup f3 = some ⟨oc3, od3, .func (PySem.W.fnOf "led_from" "led_from" (defArgs s_led_from) (defBody s_led_from) (defScope s_led_from) .none kV3 dc3 pm3 an3 cd3 ct3), sl3⟩) (c3 : PySem.W.codeIn K cd3 "led_from" = true) (k3 : PySem.W.keepIn K (.ref f3) = true)
    (a4 : PySem.W.nsIn K mainGlobals "step" = some (some (.ref f4))) (l4 : K.lookup f4 = some ⟨oc4, od4, .func (PySem.W.fnOf "step" "step" (defArgs s_step) (defBody s_step) (defScope s_step) .none kV4 dc4 pm4 an4 cd4 ct4), sl4⟩) (c4 : PySem.W.codeIn K cd4 "step" = true) (k4 : PySem.W.keepIn K (.ref f4) = true)
    (a5 : PySem.W.nsIn K mainGlobals "steps_to" = some (some (.ref f5))) (l5 : K.lookup f5 = some ⟨oc5, od5, .func (PySem.W.fnOf "steps_to" "steps_to" (defArgs s_steps_to) (defBody s_steps_to) (defScope s_steps_to) .none kV5 dc5 pm5 an5 cd5 ct5), sl5⟩) (c5 : PySem.W.codeIn K cd5 "steps_to" = true) (k5 : PySem.W.keepIn K (.ref f5) = true)
    (a6 : PySem.W.nsIn K mainGlobals "is_arrow" = some (some (.ref f6))) (l6 : K.lookup f6 = some ⟨oc6, od6, .func (PySem.W.fnOf "is_arrow" "is_arrow" (defArgs s_is_arrow) (defBody s_is_arrow) (defScope s_is_arrow) .none kV6 dc6 pm6 an6 cd6 ct6), sl6⟩) (c6 : PySem.W.codeIn K cd6 "is_arrow" = true) (k6 : PySem.W.keepIn K (.ref f6) = true)
    (a7 : PySem.W.nsIn K mainGlobals "need_hours" = some (some (.ref f7))) (l7 : K.lookup f7 = some ⟨oc7, od7, .func (PySem.W.fnOf "need_hours" "need_hours" (defArgs s_need_hours) (defBody s_need_hours) (defScope s_need_hours) .none kV7 dc7 pm7 an7 cd7 ct7), sl7⟩) (c7 : PySem.W.codeIn K cd7 "need_hours" = true) (k7 : PySem.W.keepIn K (.ref f7) = true)
    (a8 : PySem.W.nsIn K mainGlobals "need_dial" = some (some (.ref f8))) (l8 : K.lookup f8 = some ⟨oc8, od8, .func (PySem.W.fnOf "need_dial" "need_dial" (defArgs s_need_dial) (defBody s_need_dial) (defScope s_need_dial) .none kV8 dc8 pm8 an8 cd8 ct8), sl8⟩) (c8 : PySem.W.codeIn K cd8 "need_dial" = true) (k8 : PySem.W.keepIn K (.ref f8) = true)
    (a9 : PySem.W.nsIn K mainGlobals "parts_in" = some (some (.ref f9))) (l9 : K.lookup f9 = some ⟨oc9, od9, .func (PySem.W.fnOf "parts_in" "parts_in" (defArgs s_parts_in) (defBody s_parts_in) (defScope s_parts_in) .none kV9 dc9 pm9 an9 cd9 ct9), sl9⟩) (c9 : PySem.W.codeIn K cd9 "parts_in" = true) (k9 : PySem.W.keepIn K (.ref f9) = true)
    (a10 : PySem.W.nsIn K mainGlobals "above_in" = some (some (.ref f10))) (l10 : K.lookup f10 = some ⟨oc10, od10, .func (PySem.W.fnOf "above_in" "above_in" (defArgs s_above_in) (defBody s_above_in) (defScope s_above_in) .none kV10 dc10 pm10 an10 cd10 ct10), sl10⟩) (c10 : PySem.W.codeIn K cd10 "above_in" = true) (k10 : PySem.W.keepIn K (.ref f10) = true)
    (a11 : PySem.W.nsIn K mainGlobals "ways_of" = some (some (.ref f11))) (l11 : K.lookup f11 = some ⟨oc11, od11, .func (PySem.W.fnOf "ways_of" "ways_of" (defArgs s_ways_of) (defBody s_ways_of) (defScope s_ways_of) .none kV11 dc11 pm11 an11 cd11 ct11), sl11⟩) (c11 : PySem.W.codeIn K cd11 "ways_of" = true) (k11 : PySem.W.keepIn K (.ref f11) = true)
    (a12 : PySem.W.nsIn K mainGlobals "near_in" = some (some (.ref f12))) (l12 : K.lookup f12 = some ⟨oc12, od12, .func (PySem.W.fnOf "near_in" "near_in" (defArgs s_near_in) (defBody s_near_in) (defScope s_near_in) .none kV12 dc12 pm12 an12 cd12 ct12), sl12⟩) (c12 : PySem.W.codeIn K cd12 "near_in" = true) (k12 : PySem.W.keepIn K (.ref f12) = true)
    (a13 : PySem.W.nsIn K mainGlobals "need_web" = some (some (.ref f13))) (l13 : K.lookup f13 = some ⟨oc13, od13, .func (PySem.W.fnOf "need_web" "need_web" (defArgs s_need_web) (defBody s_need_web) (defScope s_need_web) .none kV13 dc13 pm13 an13 cd13 ct13), sl13⟩) (c13 : PySem.W.codeIn K cd13 "need_web" = true) (k13 : PySem.W.keepIn K (.ref f13) = true)
    (a14 : PySem.W.nsIn K mainGlobals "flow_in" = some (some (.ref f14))) (l14 : K.lookup f14 = some ⟨oc14, od14, .func (PySem.W.fnOf "flow_in" "flow_in" (defArgs s_flow_in) (defBody s_flow_in) (defScope s_flow_in) .none kV14 dc14 pm14 an14 cd14 ct14), sl14⟩) (c14 : PySem.W.codeIn K cd14 "flow_in" = true) (k14 : PySem.W.keepIn K (.ref f14) = true)
    (a15 : PySem.W.nsIn K mainGlobals "steps_from" = some (some (.ref f15))) (l15 : K.lookup f15 = some ⟨oc15, od15, .func (PySem.W.fnOf "steps_from" "steps_from" (defArgs s_steps_from) (defBody s_steps_from) (defScope s_steps_from) .none kV15 dc15 pm15 an15 cd15 ct15), sl15⟩) (c15 : PySem.W.codeIn K cd15 "steps_from" = true) (k15 : PySem.W.keepIn K (.ref f15) = true)
    (a16 : PySem.W.nsIn K mainGlobals "need_all" = some (some (.ref f16))) (l16 : K.lookup f16 = some ⟨oc16, od16, .func (PySem.W.fnOf "need_all" "need_all" (defArgs s_need_all) (defBody s_need_all) (defScope s_need_all) .none kV16 dc16 pm16 an16 cd16 ct16), sl16⟩) (c16 : PySem.W.codeIn K cd16 "need_all" = true) (k16 : PySem.W.keepIn K (.ref f16) = true)
    (a17 : PySem.W.nsIn K mainGlobals "mark_of" = some (some (.ref f17))) (l17 : K.lookup f17 = some ⟨oc17, od17, .func (PySem.W.fnOf "mark_of" "mark_of" (defArgs s_mark_of) (defBody s_mark_of) (defScope s_mark_of) .none kV17 dc17 pm17 an17 cd17 ct17), sl17⟩) (c17 : PySem.W.codeIn K cd17 "mark_of" = true) (k17 : PySem.W.keepIn K (.ref f17) = true)
    (a18 : PySem.W.nsIn K mainGlobals "marks_in" = some (some (.ref f18))) (l18 : K.lookup f18 = some ⟨oc18, od18, .func (PySem.W.fnOf "marks_in" "marks_in" (defArgs s_marks_in) (defBody s_marks_in) (defScope s_marks_in) .none kV18 dc18 pm18 an18 cd18 ct18), sl18⟩) (c18 : PySem.W.codeIn K cd18 "marks_in" = true) (k18 : PySem.W.keepIn K (.ref f18) = true)
    (a19 : PySem.W.nsIn K mainGlobals "count_with" = some (some (.ref f19))) (l19 : K.lookup f19 = some ⟨oc19, od19, .func (PySem.W.fnOf "count_with" "count_with" (defArgs s_count_with) (defBody s_count_with) (defScope s_count_with) .none kV19 dc19 pm19 an19 cd19 ct19), sl19⟩) (c19 : PySem.W.codeIn K cd19 "count_with" = true) (k19 : PySem.W.keepIn K (.ref f19) = true)
    (a20 : PySem.W.nsIn K mainGlobals "need_wish" = some (some (.ref f20))) (l20 : K.lookup f20 = some ⟨oc20, od20, .func (PySem.W.fnOf "need_wish" "need_wish" (defArgs s_need_wish) (defBody s_need_wish) (defScope s_need_wish) .none kV20 dc20 pm20 an20 cd20 ct20), sl20⟩) (c20 : PySem.W.codeIn K cd20 "need_wish" = true) (k20 : PySem.W.keepIn K (.ref f20) = true)
    (a21 : PySem.W.nsIn K mainGlobals "need_few" = some (some (.ref f21))) (l21 : K.lookup f21 = some ⟨oc21, od21, .func (PySem.W.fnOf "need_few" "need_few" (defArgs s_need_few) (defBody s_need_few) (defScope s_need_few) .none kV21 dc21 pm21 an21 cd21 ct21), sl21⟩) (c21 : PySem.W.codeIn K cd21 "need_few" = true) (k21 : PySem.W.keepIn K (.ref f21) = true)
    (a22 : PySem.W.nsIn K mainGlobals "need_two" = some (some (.ref f22))) (l22 : K.lookup f22 = some ⟨oc22, od22, .func (PySem.W.fnOf "need_two" "need_two" (defArgs s_need_two) (defBody s_need_two) (defScope s_need_two) .none kV22 dc22 pm22 an22 cd22 ct22), sl22⟩) (c22 : PySem.W.codeIn K cd22 "need_two" = true) (k22 : PySem.W.keepIn K (.ref f22) = true)
    (a23 : PySem.W.nsIn K mainGlobals "way_between" = some (some (.ref f23))) (l23 : K.lookup f23 = some ⟨oc23, od23, .func (PySem.W.fnOf "way_between" "way_between" (defArgs s_way_between) (defBody s_way_between) (defScope s_way_between) .none kV23 dc23 pm23 an23 cd23 ct23), sl23⟩) (c23 : PySem.W.codeIn K cd23 "way_between" = true) (k23 : PySem.W.keepIn K (.ref f23) = true)
    (a24 : PySem.W.nsIn K mainGlobals "fewest_met" = some (some (.ref f24))) (l24 : K.lookup f24 = some ⟨oc24, od24, .func (PySem.W.fnOf "fewest_met" "fewest_met" (defArgs s_fewest_met) (defBody s_fewest_met) (defScope s_fewest_met) .none kV24 dc24 pm24 an24 cd24 ct24), sl24⟩) (c24 : PySem.W.codeIn K cd24 "fewest_met" = true) (k24 : PySem.W.keepIn K (.ref f24) = true)
    (a25 : PySem.W.nsIn K mainGlobals "_law_taken" = some (some (.ref f25))) (l25 : K.lookup f25 = some ⟨oc25, od25, .func (PySem.W.fnOf "_law_taken" "_law_taken" (defArgs s_law_taken) (defBody s_law_taken) (defScope s_law_taken) .none kV25 dc25 pm25 an25 cd25 ct25), sl25⟩) (c25 : PySem.W.codeIn K cd25 "_law_taken" = true) (k25 : PySem.W.keepIn K (.ref f25) = true)
    (a26 : PySem.W.nsIn K mainGlobals "_law_step" = some (some (.ref f26))) (l26 : K.lookup f26 = some ⟨oc26, od26, .func (PySem.W.fnOf "_law_step" "_law_step" (defArgs s_law_step) (defBody s_law_step) (defScope s_law_step) .none kV26 dc26 pm26 an26 cd26 ct26), sl26⟩) (c26 : PySem.W.codeIn K cd26 "_law_step" = true) (k26 : PySem.W.keepIn K (.ref f26) = true)
    (a27 : PySem.W.nsIn K mainGlobals "_law_pick" = some (some (.ref f27))) (l27 : K.lookup f27 = some ⟨oc27, od27, .func (PySem.W.fnOf "_law_pick" "_law_pick" (defArgs s_law_pick) (defBody s_law_pick) (defScope s_law_pick) .none kV27 dc27 pm27 an27 cd27 ct27), sl27⟩) (c27 : PySem.W.codeIn K cd27 "_law_pick" = true) (k27 : PySem.W.keepIn K (.ref f27) = true)
    (a28 : PySem.W.nsIn K mainGlobals "_law_from" = some (some (.ref f28))) (l28 : K.lookup f28 = some ⟨oc28, od28, .func (PySem.W.fnOf "_law_from" "_law_from" (defArgs s_law_from) (defBody s_law_from) (defScope s_law_from) .none kV28 dc28 pm28 an28 cd28 ct28), sl28⟩) (c28 : PySem.W.codeIn K cd28 "_law_from" = true) (k28 : PySem.W.keepIn K (.ref f28) = true)
    (a29 : PySem.W.nsIn K mainGlobals "_law_web" = some (some (.ref f29))) (l29 : K.lookup f29 = some ⟨oc29, od29, .func (PySem.W.fnOf "_law_web" "_law_web" (defArgs s_law_web) (defBody s_law_web) (defScope s_law_web) .none kV29 dc29 pm29 an29 cd29 ct29), sl29⟩) (c29 : PySem.W.codeIn K cd29 "_law_web" = true) (k29 : PySem.W.keepIn K (.ref f29) = true)
    (a30 : PySem.W.nsIn K mainGlobals "_law_dial" = some (some (.ref f30))) (l30 : K.lookup f30 = some ⟨oc30, od30, .func (PySem.W.fnOf "_law_dial" "_law_dial" (defArgs s_law_dial) (defBody s_law_dial) (defScope s_law_dial) .none kV30 dc30 pm30 an30 cd30 ct30), sl30⟩) (c30 : PySem.W.codeIn K cd30 "_law_dial" = true) (k30 : PySem.W.keepIn K (.ref f30) = true)
    (a31 : PySem.W.nsIn K mainGlobals "_law_small" = some (some (.ref f31))) (l31 : K.lookup f31 = some ⟨oc31, od31, .func (PySem.W.fnOf "_law_small" "_law_small" (defArgs s_law_small) (defBody s_law_small) (defScope s_law_small) .none kV31 dc31 pm31 an31 cd31 ct31), sl31⟩) (c31 : PySem.W.codeIn K cd31 "_law_small" = true) (k31 : PySem.W.keepIn K (.ref f31) = true)
    (a32 : PySem.W.nsIn K mainGlobals "_law_alike" = some (some (.ref f32))) (l32 : K.lookup f32 = some ⟨oc32, od32, .func (PySem.W.fnOf "_law_alike" "_law_alike" (defArgs s_law_alike) (defBody s_law_alike) (defScope s_law_alike) .none kV32 dc32 pm32 an32 cd32 ct32), sl32⟩) (c32 : PySem.W.codeIn K cd32 "_law_alike" = true) (k32 : PySem.W.keepIn K (.ref f32) = true)
    (a33 : PySem.W.nsIn K mainGlobals "law" = some (some (.ref f33))) (l33 : K.lookup f33 = some ⟨oc33, od33, .func (PySem.W.fnOf "law" "law" (defArgs s_law) (defBody s_law) (defScope s_law) .none kV33 dc33 pm33 an33 cd33 ct33), sl33⟩) (c33 : PySem.W.codeIn K cd33 "law" = true) (k33 : PySem.W.keepIn K (.ref f33) = true)
    (z0 : PySem.W.nsIn K mainGlobals "isinstance" = some none)
    (z1 : PySem.W.nsIn K mainGlobals "len" = some none)
    (z2 : PySem.W.nsIn K mainGlobals "tuple" = some none)
    (z3 : PySem.W.nsIn K mainGlobals "int" = some none)
    (z4 : PySem.W.nsIn K mainGlobals "bool" = some none)
    (z5 : PySem.W.nsIn K mainGlobals "list" = some none)
    (z6 : PySem.W.nsIn K mainGlobals "str" = some none)
    (z7 : PySem.W.nsIn K mainGlobals "abs" = some none)
    (z8 : PySem.W.nsIn K mainGlobals "range" = some none)
    (z9 : PySem.W.nsIn K mainGlobals "enumerate" = some none)
    (z10 : PySem.W.nsIn K mainGlobals "sorted" = some none)
    (z11 : PySem.W.nsIn K mainGlobals "set" = some none)
    (z12 : PySem.W.nsIn K mainGlobals "min" = some none)
    (m0 : PySem.W.nsIn K mainGlobals "MOST_CLOCKS" = some (some (.int 7 t0)))
    (m1 : PySem.W.nsIn K mainGlobals "LEAST_HOURS" = some (some (.int 2 t1)))
    (m2 : PySem.W.nsIn K mainGlobals "MOST_HOURS" = some (some (.int 24 t2)))
    (m3 : PySem.W.nsIn K mainGlobals "MOST_DIALS" = some (some (.int 4096 t3))) :
    ∃ fd : FuncData, (∀ (s : Shared) (v : Value), BindsTo s fd ⟨[v], []⟩ [("_law_script", v)]) ∧ ∀ base : Heap, K.In base → base.Ns mainGlobals mg → FnOk l.prog w K mg base CX0 9 fa fd ["_law_script"] (spLaw K) := by
  have e := hfa.symm.trans (PySem.W.mg_of X G a33)
  cases e
  have T : Bi mg := ⟨PySem.W.mg_none_of X G z0, PySem.W.mg_none_of X G z1, PySem.W.mg_none_of X G z2, PySem.W.mg_none_of X G z3, PySem.W.mg_none_of X G z4, PySem.W.mg_none_of X G z5, PySem.W.mg_none_of X G z6, PySem.W.mg_none_of X G z7, PySem.W.mg_none_of X G z8, PySem.W.mg_none_of X G z9, PySem.W.mg_none_of X G z10, PySem.W.mg_none_of X G z11, PySem.W.mg_none_of X G z12, ⟨_, PySem.W.mg_of X G m0⟩, ⟨_, PySem.W.mg_of X G m1⟩, ⟨_, PySem.W.mg_of X G m2⟩, ⟨_, PySem.W.mg_of X G m3⟩⟩
  have F0 := fun_mk (st := s_is_in) l0 c0 k0
  have F1 := fun_mk (st := s_gcd) l1 c1 k1
  have F2 := fun_mk (st := s_prime_to) l2 c2 k2
  have F3 := fun_mk (st := s_led_from) l3 c3 k3
  have F4 := fun_mk (st := s_step) l4 c4 k4
  have F5 := fun_mk (st := s_steps_to) l5 c5 k5
  have F6 := fun_mk (st := s_is_arrow) l6 c6 k6
  have F7 := fun_mk (st := s_need_hours) l7 c7 k7
  have F8 := fun_mk (st := s_need_dial) l8 c8 k8
  have F9 := fun_mk (st := s_parts_in) l9 c9 k9
  have F10 := fun_mk (st := s_above_in) l10 c10 k10
  have F11 := fun_mk (st := s_ways_of) l11 c11 k11
  have F12 := fun_mk (st := s_near_in) l12 c12 k12
  have F13 := fun_mk (st := s_need_web) l13 c13 k13
  have F14 := fun_mk (st := s_flow_in) l14 c14 k14
  have F15 := fun_mk (st := s_steps_from) l15 c15 k15
  have F16 := fun_mk (st := s_need_all) l16 c16 k16
  have F17 := fun_mk (st := s_mark_of) l17 c17 k17
  have F18 := fun_mk (st := s_marks_in) l18 c18 k18
  have F19 := fun_mk (st := s_count_with) l19 c19 k19
  have F20 := fun_mk (st := s_need_wish) l20 c20 k20
  have F21 := fun_mk (st := s_need_few) l21 c21 k21
  have F22 := fun_mk (st := s_need_two) l22 c22 k22
  have F23 := fun_mk (st := s_way_between) l23 c23 k23
  have F24 := fun_mk (st := s_fewest_met) l24 c24 k24
  have F25 := fun_mk (st := s_law_taken) l25 c25 k25
  have F26 := fun_mk (st := s_law_step) l26 c26 k26
  have F27 := fun_mk (st := s_law_pick) l27 c27 k27
  have F28 := fun_mk (st := s_law_from) l28 c28 k28
  have F29 := fun_mk (st := s_law_web) l29 c29 k29
  have F30 := fun_mk (st := s_law_dial) l30 c30 k30
  have F31 := fun_mk (st := s_law_small) l31 c31 k31
  have F32 := fun_mk (st := s_law_alike) l32 c32 k32
  have F33 := fun_mk (st := s_law) l33 c33 k33
  refine ⟨PySem.W.fnOf "law" "law" (defArgs s_law) (defBody s_law) (defScope s_law) .none kV33 dc33 pm33 an33 cd33 ct33, fun s v => .of_eq rfl, fun base _ _ => ?_⟩
  have C_is_in : Cal l.prog w K mg base 1 "is_in" ["value", "least", "most"] spIsIn := ⟨_, _, (ok_is_in F0 T ), PySem.W.mg_of X G a0, k0, (F0.binds (ps := ["value", "least", "most"]) fun _ _ _ _ _ _ us hl => match us, hl with | [_, _, _], _ => rfl)⟩
  have C_gcd : Cal l.prog w K mg base 1 "gcd" ["one", "other"] spGcd := ⟨_, _, (ok_gcd F1 T ), PySem.W.mg_of X G a1, k1, (F1.binds (ps := ["one", "other"]) fun _ _ _ _ _ _ us hl => match us, hl with | [_, _], _ => rfl)⟩
  have C_prime_to : Cal l.prog w K mg base 1 "prime_to" ["number", "many"] spPrimeTo := ⟨_, _, (ok_prime_to F2 T ), PySem.W.mg_of X G a2, k2, (F2.binds (ps := ["number", "many"]) fun _ _ _ _ _ _ us hl => match us, hl with | [_, _], _ => rfl)⟩
  have C_led_from : Cal l.prog w K mg base 1 "led_from" ["web", "place"] spLedFrom := ⟨_, _, (ok_led_from F3 T ), PySem.W.mg_of X G a3, k3, (F3.binds (ps := ["web", "place"]) fun _ _ _ _ _ _ us hl => match us, hl with | [_, _], _ => rfl)⟩
  have C_step : Cal l.prog w K mg base 1 "step" ["hours", "dial", "arrow"] spStep := ⟨_, _, (ok_step F4 T ), PySem.W.mg_of X G a4, k4, (F4.binds (ps := ["hours", "dial", "arrow"]) fun _ _ _ _ _ _ us hl => match us, hl with | [_, _, _], _ => rfl)⟩
  have C_steps_to : Cal l.prog w K mg base 1 "steps_to" ["web", "hours", "dial"] spStepsTo := ⟨_, _, (ok_steps_to F5 T ), PySem.W.mg_of X G a5, k5, (F5.binds (ps := ["web", "hours", "dial"]) fun _ _ _ _ _ _ us hl => match us, hl with | [_, _, _], _ => rfl)⟩
  have C_is_arrow : Cal l.prog w K mg base 2 "is_arrow" ["value", "many"] spIsArrow := ⟨_, _, (ok_is_arrow F6 T C_is_in), PySem.W.mg_of X G a6, k6, (F6.binds (ps := ["value", "many"]) fun _ _ _ _ _ _ us hl => match us, hl with | [_, _], _ => rfl)⟩
  have C_need_hours : Cal l.prog w K mg base 2 "need_hours" ["hours"] spNeedHours := ⟨_, _, (ok_need_hours F7 T C_is_in), PySem.W.mg_of X G a7, k7, (F7.binds (ps := ["hours"]) fun _ _ _ _ _ _ us hl => match us, hl with | [_], _ => rfl)⟩
  have C_need_dial : Cal l.prog w K mg base 2 "need_dial" ["web", "hours", "dial"] spNeedDial := ⟨_, _, (ok_need_dial F8 T C_is_in), PySem.W.mg_of X G a8, k8, (F8.binds (ps := ["web", "hours", "dial"]) fun _ _ _ _ _ _ us hl => match us, hl with | [_, _, _], _ => rfl)⟩
  have C_parts_in : Cal l.prog w K mg base 2 "parts_in" ["web"] spPartsIn := ⟨_, _, (ok_parts_in F9 T C_led_from), PySem.W.mg_of X G a9, k9, (F9.binds (ps := ["web"]) fun _ _ _ _ _ _ us hl => match us, hl with | [_], _ => rfl)⟩
  have C_above_in : Cal l.prog w K mg base 2 "above_in" ["web", "place"] spAboveIn := ⟨_, _, (ok_above_in F10 T C_led_from), PySem.W.mg_of X G a10, k10, (F10.binds (ps := ["web", "place"]) fun _ _ _ _ _ _ us hl => match us, hl with | [_, _], _ => rfl)⟩
  have C_ways_of : Cal l.prog w K mg base 2 "ways_of" ["hours", "mark", "part", "dial"] spWaysOf := ⟨_, _, (ok_ways_of F11 T C_gcd C_prime_to), PySem.W.mg_of X G a11, k11, (F11.binds (ps := ["hours", "mark", "part", "dial"]) fun _ _ _ _ _ _ us hl => match us, hl with | [_, _, _, _], _ => rfl)⟩
  have C_near_in : Cal l.prog w K mg base 2 "near_in" ["web", "hours", "dial"] spNearIn := ⟨_, _, (ok_near_in F12 T C_step), PySem.W.mg_of X G a12, k12, (F12.binds (ps := ["web", "hours", "dial"]) fun _ _ _ _ _ _ us hl => match us, hl with | [_, _, _], _ => rfl)⟩
  have C_need_web : Cal l.prog w K mg base 3 "need_web" ["web"] spNeedWeb := ⟨_, _, (ok_need_web F13 T C_is_in C_is_arrow), PySem.W.mg_of X G a13, k13, (F13.binds (ps := ["web"]) fun _ _ _ _ _ _ us hl => match us, hl with | [_], _ => rfl)⟩
  have C_flow_in : Cal l.prog w K mg base 3 "flow_in" ["web", "hours", "dial", "place"] spFlowIn := ⟨_, _, (ok_flow_in F14 T C_above_in C_gcd), PySem.W.mg_of X G a14, k14, (F14.binds (ps := ["web", "hours", "dial", "place"]) fun _ _ _ _ _ _ us hl => match us, hl with | [_, _, _, _], _ => rfl)⟩
  have C_steps_from : Cal l.prog w K mg base 3 "steps_from" ["web", "hours", "dial"] spFrom := ⟨_, _, (ok_steps_from F15 T C_near_in), PySem.W.mg_of X G a15, k15, (F15.binds (ps := ["web", "hours", "dial"]) fun _ _ _ _ _ _ us hl => match us, hl with | [_, _, _], _ => rfl)⟩
  have C_need_all : Cal l.prog w K mg base 4 "need_all" ["web", "hours", "dial"] spNeedAll := ⟨_, _, (ok_need_all F16 T C_need_web C_need_hours C_need_dial), PySem.W.mg_of X G a16, k16, (F16.binds (ps := ["web", "hours", "dial"]) fun _ _ _ _ _ _ us hl => match us, hl with | [_, _, _], _ => rfl)⟩
  have C_mark_of : Cal l.prog w K mg base 4 "mark_of" ["web", "hours", "dial", "part"] spMarkOf := ⟨_, _, (ok_mark_of F17 T C_flow_in C_gcd), PySem.W.mg_of X G a17, k17, (F17.binds (ps := ["web", "hours", "dial", "part"]) fun _ _ _ _ _ _ us hl => match us, hl with | [_, _, _, _], _ => rfl)⟩
  have C_marks_in : Cal l.prog w K mg base 5 "marks_in" ["web", "hours", "dial"] spMarksIn := ⟨_, _, (ok_marks_in F18 T C_parts_in C_mark_of), PySem.W.mg_of X G a18, k18, (F18.binds (ps := ["web", "hours", "dial"]) fun _ _ _ _ _ _ us hl => match us, hl with | [_, _, _], _ => rfl)⟩
  have C_count_with : Cal l.prog w K mg base 5 "count_with" ["web", "hours", "dial", "told"] spCountWith := ⟨_, _, (ok_count_with F19 T C_parts_in C_mark_of C_ways_of), PySem.W.mg_of X G a19, k19, (F19.binds (ps := ["web", "hours", "dial", "told"]) fun _ _ _ _ _ _ us hl => match us, hl with | [_, _, _, _], _ => rfl)⟩
  have C_need_wish : Cal l.prog w K mg base 5 "need_wish" ["web", "hours", "dial", "wish"] spNeedWish := ⟨_, _, (ok_need_wish F20 T C_need_all C_is_in), PySem.W.mg_of X G a20, k20, (F20.binds (ps := ["web", "hours", "dial", "wish"]) fun _ _ _ _ _ _ us hl => match us, hl with | [_, _, _, _], _ => rfl)⟩
  have C_need_few : Cal l.prog w K mg base 6 "need_few" ["web", "hours", "dial"] spNeedFew := ⟨_, _, (ok_need_few F21 T C_count_with), PySem.W.mg_of X G a21, k21, (F21.binds (ps := ["web", "hours", "dial"]) fun _ _ _ _ _ _ us hl => match us, hl with | [_, _, _], _ => rfl)⟩
  have C_need_two : Cal l.prog w K mg base 7 "need_two" ["web", "hours", "one", "other"] spNeedTwo := ⟨_, _, (ok_need_two F22 T C_need_all C_need_dial C_need_few), PySem.W.mg_of X G a22, k22, (F22.binds (ps := ["web", "hours", "one", "other"]) fun _ _ _ _ _ _ us hl => match us, hl with | [_, _, _, _], _ => rfl)⟩
  have C_way_between : Cal l.prog w K mg base 8 "way_between" ["web", "hours", "one", "other"] spWayBetween := ⟨_, _, (ok_way_between F23 T C_need_two C_marks_in C_steps_to C_step), PySem.W.mg_of X G a23, k23, (F23.binds (ps := ["web", "hours", "one", "other"]) fun _ _ _ _ _ _ us hl => match us, hl with | [_, _, _, _], _ => rfl)⟩
  have C_fewest_met : Cal l.prog w K mg base 7 "fewest_met" ["web", "hours", "dial", "wish"] spFewestMet := ⟨_, _, (ok_fewest_met F24 T C_need_wish C_need_few C_steps_from), PySem.W.mg_of X G a24, k24, (F24.binds (ps := ["web", "hours", "dial", "wish"]) fun _ _ _ _ _ _ us hl => match us, hl with | [_, _, _, _], _ => rfl)⟩
  have C_law_taken : Cal l.prog w K mg base 1 "_law_taken" ["_law_row", "_law_many"] (spTaken K) := ⟨_, _, (ok_law_taken F25 T ), PySem.W.mg_of X G a25, k25, (F25.binds (ps := ["_law_row", "_law_many"]) fun _ _ _ _ _ _ us hl => match us, hl with | [_, _], _ => rfl)⟩
  have C_law_step : Cal l.prog w K mg base 1 "_law_step" ["_law_hours", "_law_dial_here", "_law_arrow"] spStep := ⟨_, _, (ok_law_step F26 T ), PySem.W.mg_of X G a26, k26, (F26.binds (ps := ["_law_hours", "_law_dial_here", "_law_arrow"]) fun _ _ _ _ _ _ us hl => match us, hl with | [_, _, _], _ => rfl)⟩
  have C_law_pick : Cal l.prog w K mg base 2 "_law_pick" ["_law_row", "_law_things"] (spPick K) := ⟨_, _, (ok_law_pick F27 T C_law_taken), PySem.W.mg_of X G a27, k27, (F27.binds (ps := ["_law_row", "_law_things"]) fun _ _ _ _ _ _ us hl => match us, hl with | [_, _], _ => rfl)⟩
  have C_law_from : Cal l.prog w K mg base 2 "_law_from" ["_law_web_here", "_law_hours", "_law_dial_here"] spFrom := ⟨_, _, (ok_law_from F28 T C_law_step), PySem.W.mg_of X G a28, k28, (F28.binds (ps := ["_law_web_here", "_law_hours", "_law_dial_here"]) fun _ _ _ _ _ _ us hl => match us, hl with | [_, _, _], _ => rfl)⟩
  have C_law_web : Cal l.prog w K mg base 3 "_law_web" ["_law_row", "_law_most"] (spWeb K) := ⟨_, _, (ok_law_web F29 T C_law_taken C_law_pick), PySem.W.mg_of X G a29, k29, (F29.binds (ps := ["_law_row", "_law_most"]) fun _ _ _ _ _ _ us hl => match us, hl with | [_, _], _ => rfl)⟩
  have C_law_dial : Cal l.prog w K mg base 3 "_law_dial" ["_law_row", "_law_web_here", "_law_hours"] (spDial K) := ⟨_, _, (ok_law_dial F30 T C_law_taken C_law_pick), PySem.W.mg_of X G a30, k30, (F30.binds (ps := ["_law_row", "_law_web_here", "_law_hours"]) fun _ _ _ _ _ _ us hl => match us, hl with | [_, _, _], _ => rfl)⟩
  have C_law_small : Cal l.prog w K mg base 4 "_law_small" ["_law_row"] (spSmall K) := ⟨_, _, (ok_law_small F31 T C_law_web C_law_taken C_law_dial), PySem.W.mg_of X G a31, k31, (F31.binds (ps := ["_law_row"]) fun _ _ _ _ _ _ us hl => match us, hl with | [_], _ => rfl)⟩
  have A1 : Cal l.prog w K mg base 1 "_law_alike" ["_law_found", "_law_due"] spNo := ⟨_, _, no_ok, PySem.W.mg_of X G a32, k32, (F32.binds (ps := ["_law_found", "_law_due"]) fun _ _ _ _ _ _ us hl => match us, hl with | [_, _], _ => rfl)⟩
  have r0 : ∀ H H' x y, Ex H H' → Rel0 H x y → Rel0 H' x y := fun _ _ _ _ _ h => h
  have g0 := ok_law_alike0 (P := l.prog) (w := w) (base := base) F32 T A1
  have A2 : Cal l.prog w K mg base 2 "_law_alike" ["_law_found", "_law_due"] (spAlike Rel0) := ⟨_, _, g0, PySem.W.mg_of X G a32, k32, (F32.binds (ps := ["_law_found", "_law_due"]) fun _ _ _ _ _ _ us hl => match us, hl with | [_, _], _ => rfl)⟩
  have g1 := ok_law_alikeT (n := 2) (P := l.prog) (w := w) (base := base) r0 F32 T A2
  have A3 : Cal l.prog w K mg base 3 "_law_alike" ["_law_found", "_law_due"] (spAlike (RelT Rel0)) := ⟨_, _, g1, PySem.W.mg_of X G a32, k32, (F32.binds (ps := ["_law_found", "_law_due"]) fun _ _ _ _ _ _ us hl => match us, hl with | [_, _], _ => rfl)⟩
  have g2 := ok_law_alikeT (n := 3) (P := l.prog) (w := w) (base := base) (RelT.ex r0) F32 T A3
  have C_law_alike : Cal l.prog w K mg base 4 "_law_alike" ["_law_found", "_law_due"] (fun vs H Q E => spAlike Rel0 vs H Q E ∨ spAlike (RelT (RelT Rel0)) vs H Q E) := ⟨_, _, (or_ok (g0.mono (by decide)) g2), PySem.W.mg_of X G a32, k32, (F32.binds (ps := ["_law_found", "_law_due"]) fun _ _ _ _ _ _ us hl => match us, hl with | [_, _], _ => rfl)⟩
  exact ok_law F33 T C_law_small C_law_from C_law_step C_law_pick C_law_dial C_law_taken C_law_alike C_way_between C_fewest_met
theorem walked {l : PySem.W.OpenLaw} {q : Program} {loose : List Str} {XP : (Str → Option Value) → Heap → Prop} {YP : World → Heap → Prop} {d : DefRec} {K : Params → PySem.W.Frag} (hn : l.most = some 63) (hdf : d.params.defaults = [])
    (hY : ∀ (w : World) (h : Heap), YP w h → (K w.params).In h)
    (F : ∀ (w : World) (mg : Str → Option Value) (fa : Addr) (h : Heap), (K w.params).In h → h.Ns mainGlobals mg → mg d.name = some (.ref fa) →
      ∃ fd : FuncData, (∀ (s : Shared) (u : Value), BindsTo s fd ⟨[u], []⟩ [("_law_script", u)]) ∧ ∀ base : Heap, (K w.params).In base → base.Ns mainGlobals mg → FnOk l.prog w (K w.params) mg base CX0 9 fa fd ["_law_script"] (spLaw (K w.params))) :
    PySem.W.WalkO q loose XP YP l.row.toRowW d [] (fun f vs => PySem.call f vs) :=
  L2.walk_of (n := 63) (k := 9) (x := "_law_script") (CX := fun _ => CX0) (sp := fun w => spLaw (K w.params)) hn (by decide) hdf ⟨rfl, by decide, by decide⟩ hY F (fun _ _ a ns hl _ hS => ⟨a, ns, rfl, hS, fun _ => rfl⟩) fun _ _ _ _ _ z => z
end CK
open PySem PySem.W PyProof.Rows in
set_option maxRecDepth 100000 in
set_option maxHeartbeats 0 in
theorem PySem.Challenge.cw_clockadds_k19_whole_least_ways_holds : PySem.Challenge.rw_clockadds_k19_whole_least_ways.Holds := by
  w_on; o_law; k_head; (case hw => w_witness2)
  k_fill
  refine CK.walked (l := PySem.Challenge.rw_clockadds_k19_whole_least_ways) rfl rfl (fun w h Y => PySem.W.kIn_of Y) ?F
  case F =>
    intro w mg fa h KX G hmg
    refine' CK.top_facts KX G hmg ?a0 ?l0 ?c0 ?k0 ?a1 ?l1 ?c1 ?k1 ?a2 ?l2 ?c2 ?k2 ?a3 ?l3 ?c3 ?k3 ?a4 ?l4 ?c4 ?k4 ?a5 ?l5 ?c5 ?k5 ?a6 ?l6 ?c6 ?k6 ?a7 ?l7 ?c7 ?k7 ?a8 ?l8 ?c8 ?k8 ?a9 ?l9 ?c9 ?k9 ?a10 ?l10 ?c10 ?k10 ?a11 ?l11 ?c11 ?k11 ?a12 ?l12 ?c12 ?k12 ?a13 ?l13 ?c13 ?k13 ?a14 ?l14 ?c14 ?k14 ?a15 ?l15 ?c15 ?k15 ?a16 ?l16 ?c16 ?k16 ?a17 ?l17 ?c17 ?k17 ?a18 ?l18 ?c18 ?k18 ?a19 ?l19 ?c19 ?k19 ?a20 ?l20 ?c20 ?k20 ?a21 ?l21 ?c21 ?k21 ?a22 ?l22 ?c22 ?k22 ?a23 ?l23 ?c23 ?k23 ?a24 ?l24 ?c24 ?k24 ?a25 ?l25 ?c25 ?k25 ?a26 ?l26 ?c26 ?k26 ?a27 ?l27 ?c27 ?k27 ?a28 ?l28 ?c28 ?k28 ?a29 ?l29 ?c29 ?k29 ?a30 ?l30 ?c30 ?k30 ?a31 ?l31 ?c31 ?k31 ?a32 ?l32 ?c32 ?k32 ?a33 ?l33 ?c33 ?k33 ?z0 ?z1 ?z2 ?z3 ?z4 ?z5 ?z6 ?z7 ?z8 ?z9 ?z10 ?z11 ?z12 ?m0 ?m1 ?m2 ?m3
    (case a0 => k_is)
    (case l0 => k_is)
    (case c0 => k_is)
    (case k0 => k_is)
    (case a1 => k_is)
    (case l1 => k_is)
    (case c1 => k_is)
    (case k1 => k_is)
    (case a2 => k_is)
    (case l2 => k_is)
    (case c2 => k_is)
    (case k2 => k_is)
    (case a3 => k_is)
    (case l3 => k_is)
    (case c3 => k_is)
    (case k3 => k_is)
    (case a4 => k_is)
    (case l4 => k_is)
    (case c4 => k_is)
    (case k4 => k_is)
    (case a5 => k_is)
    (case l5 => k_is)
    (case c5 => k_is)
    (case k5 => k_is)
    (case a6 => k_is)
    (case l6 => k_is)
    (case c6 => k_is)
    (case k6 => k_is)
    (case a7 => k_is)
    (case l7 => k_is)
    (case c7 => k_is)
    (case k7 => k_is)
    (case a8 => k_is)
    (case l8 => k_is)
    (case c8 => k_is)
    (case k8 => k_is)
    (case a9 => k_is)
    (case l9 => k_is)
    (case c9 => k_is)
    (case k9 => k_is)
    (case a10 => k_is)
    (case l10 => k_is)
    (case c10 => k_is)
    (case k10 => k_is)
    (case a11 => k_is)
    (case l11 => k_is)
    (case c11 => k_is)
    (case k11 => k_is)
    (case a12 => k_is)
    (case l12 => k_is)
    (case c12 => k_is)
    (case k12 => k_is)
    (case a13 => k_is)
    (case l13 => k_is)
    (case c13 => k_is)
    (case k13 => k_is)
    (case a14 => k_is)
    (case l14 => k_is)
    (case c14 => k_is)
    (case k14 => k_is)
    (case a15 => k_is)
    (case l15 => k_is)
    (case c15 => k_is)
    (case k15 => k_is)
    (case a16 => k_is)
    (case l16 => k_is)
    (case c16 => k_is)
    (case k16 => k_is)
    (case a17 => k_is)
    (case l17 => k_is)
    (case c17 => k_is)
    (case k17 => k_is)
    (case a18 => k_is)
    (case l18 => k_is)
    (case c18 => k_is)
    (case k18 => k_is)
    (case a19 => k_is)
    (case l19 => k_is)
    (case c19 => k_is)
    (case k19 => k_is)
    (case a20 => k_is)
    (case l20 => k_is)
    (case c20 => k_is)
    (case k20 => k_is)
    (case a21 => k_is)
    (case l21 => k_is)
    (case c21 => k_is)
    (case k21 => k_is)
    (case a22 => k_is)
    (case l22 => k_is)
    (case c22 => k_is)
    (case k22 => k_is)
    (case a23 => k_is)
    (case l23 => k_is)
    (case c23 => k_is)
    (case k23 => k_is)
    (case a24 => k_is)
    (case l24 => k_is)
    (case c24 => k_is)
    (case k24 => k_is)
    (case a25 => k_is)
    (case l25 => k_is)
    (case c25 => k_is)
    (case k25 => k_is)
    (case a26 => k_is)
    (case l26 => k_is)
    (case c26 => k_is)
    (case k26 => k_is)
    (case a27 => k_is)
    (case l27 => k_is)
    (case c27 => k_is)
    (case k27 => k_is)
    (case a28 => k_is)
    (case l28 => k_is)
    (case c28 => k_is)
    (case k28 => k_is)
    (case a29 => k_is)
    (case l29 => k_is)
    (case c29 => k_is)
    (case k29 => k_is)
    (case a30 => k_is)
    (case l30 => k_is)
    (case c30 => k_is)
    (case k30 => k_is)
    (case a31 => k_is)
    (case l31 => k_is)
    (case c31 => k_is)
    (case k31 => k_is)
    (case a32 => k_is)
    (case l32 => k_is)
    (case c32 => k_is)
    (case k32 => k_is)
    (case a33 => k_is)
    (case l33 => k_is)
    (case c33 => k_is)
    (case k33 => k_is)
    (case z0 => k_is)
    (case z1 => k_is)
    (case z2 => k_is)
    (case z3 => k_is)
    (case z4 => k_is)
    (case z5 => k_is)
    (case z6 => k_is)
    (case z7 => k_is)
    (case z8 => k_is)
    (case z9 => k_is)
    (case z10 => k_is)
    (case z11 => k_is)
    (case z12 => k_is)
    (case m0 => k_is)
    (case m1 => k_is)
    (case m2 => k_is)
    (case m3 => k_is)
#print axioms PySem.Challenge.cw_clockadds_k19_whole_least_ways_holds
