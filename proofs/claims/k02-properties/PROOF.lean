import PyProof.Rows.All
import Wide.All
import OpenK.AllK
import Wide.FinOn
import HandS.ForMost
import HandS.ForExc
import HandS.EndBits
import HandS.IsInst
import HandS.Conv
import HandS.Wide
import HandS.WideMore
import HandS.WideBits
import HandS.Deep
import HandS.Star
import HandS.TupAny
import PySem.Challenge.RW_oddkeys_k02_properties
set_option Elab.async false
set_option linter.all false
set_option maxRecDepth 100000
set_option maxHeartbeats 4000000
namespace J
def keysI (n : Nat) : List Int := (List.range n).map fun (i : Nat) => (i : Int)
theorem keysI_len (n : Nat) : (keysI n).length = n := by unfold keysI; simp
theorem mem_keysI {n : Nat} {x : Int} : x ∈ keysI n ↔ 0 ≤ x ∧ x < n := by
  unfold keysI
  rw [List.mem_map]
  refine ⟨fun ⟨i, hi, e⟩ => ?_, fun ⟨h0, h1⟩ => ⟨x.toNat, ?_, ?_⟩⟩
  · have := List.mem_range.mp hi
    omega
  · exact List.mem_range.mpr (by omega)
  · omega
theorem keysI_lt (n : Nat) : (keysI n).Pairwise (· < ·) := by
  unfold keysI
  rw [List.pairwise_map]
  exact (List.pairwise_lt_range (n := n)).imp fun h => by omega
end J
namespace O
open J
/-! relations, holders: plain -/
abbrev Mat := List (List Int)
structure Rel (r : Mat) : Prop where
  sq : ∀ row ∈ r, row.length = r.length
  bit : ∀ row ∈ r, ∀ x ∈ row, x = 0 ∨ x = 1
  dia : ∀ (i : Nat) row, r[i]? = some row → row[i]? = some 1
  few : r.length ≤ 10
def In (r : Mat) (x : Int) : Prop := 0 ≤ x ∧ x < r.length
def Keys (r : Mat) (hs : List Int) : Prop := ∀ x ∈ hs, In r x
def ans (r : Mat) (x y : Int) : Int := (r.getD x.toNat []).getD y.toNat 0
def st (r : Mat) (x y : Int) : Bool := decide (ans r x y = 1)
theorem rel_row {r : Mat} {x : Nat} (hx : x < r.length) : r[x]? = some (r.getD x []) := by
  rw [List.getD_eq_getElem?_getD, List.getElem?_eq_getElem hx]; rfl
theorem In.lt {r : Mat} {x : Int} (h : In r x) : x.toNat < r.length := by
  have := h.1; have := h.2; omega
theorem st_self {r : Mat} (R : Rel r) {x : Int} (hx : In r x) : st r x x = true := by
  have h := R.dia _ _ (rel_row hx.lt)
  unfold st ans
  rw [List.getD_eq_getElem?_getD (l := r.getD x.toNat []), h]; rfl
def kf (r : Mat) (hs : List Int) (y : Int) : Option Int := hs.find? fun x => st r x y
def wp (r : Mat) (hs : List Int) (y : Int) : List Int := if (kf r hs y).isNone then hs ++ [y] else hs
def ko (r : Mat) (hs ks : List Int) : List Int := ks.foldl (wp r) hs
def Hold (r : Mat) (hs : List Int) : Prop := ∀ (i : Nat) y, hs[i]? = some y → kf r (hs.take i) y = none
theorem Rel.row {r : Mat} (R : Rel r) {i : Nat} {row : List Int} (h : r[i]? = some row) : row.length = r.length ∧ (∀ x ∈ row, x = 0 ∨ x = 1) ∧ row[i]? = some 1 := ⟨R.sq _ (List.mem_of_getElem? h), R.bit _ (List.mem_of_getElem? h), R.dia _ _ h⟩
theorem kf_in {r : Mat} {hs : List Int} {y z : Int} (h : kf r hs y = some z) : z ∈ hs ∧ st r z y = true := ⟨List.mem_of_find?_eq_some h, List.find?_some (p := fun x => st r x y) h⟩
theorem kf_none {r : Mat} {hs : List Int} {y : Int} : kf r hs y = none ↔ ∀ z ∈ hs, st r z y = false := by
  unfold kf
  rw [List.find?_eq_none]
  exact ⟨fun h z hz => by simpa using h z hz, fun h z hz => by simpa using h z hz⟩
theorem wp_none {r : Mat} {hs : List Int} {y : Int} (h : kf r hs y = none) : wp r hs y = hs ++ [y] := by unfold wp; rw [h]; rfl
theorem wp_some {r : Mat} {hs : List Int} {y z : Int} (h : kf r hs y = some z) : wp r hs y = hs := by unfold wp; rw [h]; rfl
theorem wp_keys {r : Mat} {hs : List Int} {y : Int} (h : Keys r hs) (hy : In r y) : Keys r (wp r hs y) := by
  unfold wp
  split
  · intro x hx
    rcases List.mem_append.mp hx with h1 | h1
    · exact h x h1
    · cases List.mem_singleton.mp h1; exact hy
  · exact h
theorem wp_len {r : Mat} {hs : List Int} {y : Int} : (wp r hs y).length ≤ hs.length + 1 := by
  unfold wp
  split
  · rw [List.length_append]; exact Nat.le_refl _
  · exact Nat.le_succ _
theorem ko_nil {r : Mat} {hs : List Int} : ko r hs [] = hs := rfl
theorem ko_cons {r : Mat} {hs ks : List Int} {y : Int} : ko r hs (y :: ks) = ko r (wp r hs y) ks := rfl
theorem ko_app {r : Mat} {hs a b : List Int} : ko r hs (a ++ b) = ko r (ko r hs a) b := List.foldl_append
theorem ko_keys {r : Mat} : ∀ {ks hs : List Int}, Keys r hs → Keys r ks → Keys r (ko r hs ks)
  | [], _, h, _ => h
  | y :: ks, hs, h, hk => ko_keys (ks := ks) (wp_keys h (hk y (List.mem_cons_self ..))) fun z hz => hk z (List.mem_cons_of_mem _ hz)
theorem ko_len {r : Mat} : ∀ {ks hs : List Int}, (ko r hs ks).length ≤ hs.length + ks.length
  | [], _ => Nat.le_refl _
  | y :: ks, hs => by
    have h1 := ko_len (r := r) (ks := ks) (hs := wp r hs y)
    have h2 := wp_len (r := r) (hs := hs) (y := y)
    rw [ko_cons, List.length_cons]; omega
theorem wp_pre {r : Mat} {hs : List Int} {y : Int} : ∃ t, wp r hs y = hs ++ t ∧ ∀ z ∈ t, z = y := by
  unfold wp
  split
  · exact ⟨[y], rfl, fun z hz => List.mem_singleton.mp hz⟩
  · exact ⟨[], by simp, fun z hz => nomatch hz⟩
theorem ko_pre {r : Mat} : ∀ {ks hs : List Int}, ∃ t, ko r hs ks = hs ++ t ∧ ∀ z ∈ t, z ∈ ks
  | [], hs => ⟨[], by simp [ko_nil], fun z hz => nomatch hz⟩
  | y :: ks, hs => by
    obtain ⟨t1, e1, h1⟩ := wp_pre (r := r) (hs := hs) (y := y)
    obtain ⟨t2, e2, h2⟩ := ko_pre (r := r) (ks := ks) (hs := wp r hs y)
    refine ⟨t1 ++ t2, by rw [ko_cons, e2, e1, List.append_assoc], fun z hz => ?_⟩
    rcases List.mem_append.mp hz with h | h
    · rw [h1 z h]; exact List.mem_cons_self ..
    · exact List.mem_cons_of_mem _ (h2 z h)
theorem ko_sub {r : Mat} {ks : List Int} {x : Int} (h : x ∈ ko r [] ks) : x ∈ ks := by
  obtain ⟨t, e, ht⟩ := ko_pre (r := r) (ks := ks) (hs := [])
  rw [e] at h
  exact ht x (by simpa using h)
theorem kf_app {r : Mat} {a b : List Int} {y : Int} : kf r (a ++ b) y = (kf r a y).or (kf r b y) := List.find?_append
theorem kf_app_some {r : Mat} {a b : List Int} {y z : Int} (h : kf r a y = some z) : kf r (a ++ b) y = some z := by rw [kf_app, h]; rfl
theorem ko_found_stays {r : Mat} {ks hs : List Int} {y z : Int} (h : kf r hs y = some z) : kf r (ko r hs ks) y = some z := by
  obtain ⟨t, e, _⟩ := ko_pre (r := r) (ks := ks) (hs := hs)
  rw [e]; exact kf_app_some h
/-- all keys are found: nothing comes in -/
theorem ko_all_found {r : Mat} : ∀ {ks hs : List Int}, (∀ y ∈ ks, kf r hs y ≠ none) → ko r hs ks = hs
  | [], _, _ => rfl
  | y :: ks, hs, h => by
    have h1 := h y (List.mem_cons_self ..)
    cases e : kf r hs y with
    | none => exact absurd e h1
    | some z =>
      rw [ko_cons, wp_some e]
      exact ko_all_found fun y hy => h y (List.mem_cons_of_mem _ hy)
theorem wp_found {r : Mat} (R : Rel r) {hs : List Int} {y : Int} (hy : In r y) : kf r (wp r hs y) y ≠ none := by
  cases e : kf r hs y with
  | some z => rw [wp_some e, e]; exact fun z => nomatch z
  | none =>
    rw [wp_none e, kf_app, e]
    unfold kf
    rw [List.find?_cons, st_self R hy]
    exact fun z => nomatch z
theorem ko_found {r : Mat} (R : Rel r) : ∀ {ks hs : List Int}, Keys r ks → ∀ y ∈ ks, kf r (ko r hs ks) y ≠ none
  | [], _, _, _, h => nomatch h
  | x :: ks, hs, hk, y, h => by
    rw [ko_cons]
    rcases List.mem_cons.mp h with h | h
    · subst h
      have h1 := wp_found R (hs := hs) (hk y (List.mem_cons_self ..))
      cases e : kf r (wp r hs y) y with
      | none => exact absurd e h1
      | some z => rw [ko_found_stays e]; exact fun z => nomatch z
    · exact ko_found R (fun z hz => hk z (List.mem_cons_of_mem _ hz)) y h
/-! holders -/
theorem hold_nil {r : Mat} : Hold r [] := fun i y e => by simp at e
theorem Hold.app {r : Mat} {hs : List Int} {y : Int} (h : Hold r hs) (hy : kf r hs y = none) : Hold r (hs ++ [y]) := fun i z e => by
  rcases Nat.lt_or_ge i hs.length with h1 | h1
  · rw [List.getElem?_append_left h1] at e
    rw [List.take_append_of_le_length (Nat.le_of_lt h1)]
    exact h i z e
  · have h2 := (List.getElem?_eq_some_iff.mp e).1
    rw [List.length_append, List.length_cons, List.length_nil] at h2
    have h3 : i = hs.length := by omega
    subst h3
    rw [List.getElem?_append_right (Nat.le_refl _), Nat.sub_self] at e
    cases e
    rw [List.take_append_of_le_length (Nat.le_refl _), List.take_length]
    exact hy
theorem Hold.wp {r : Mat} {hs : List Int} {y : Int} (h : Hold r hs) : Hold r (wp r hs y) := by
  cases e : kf r hs y with
  | none => rw [wp_none e]; exact h.app e
  | some z => rw [wp_some e]; exact h
theorem Hold.ko {r : Mat} : ∀ {ks hs : List Int}, Hold r hs → Hold r (ko r hs ks)
  | [], _, h => h
  | y :: ks, hs, h => Hold.ko (ks := ks) (h.wp (y := y))
theorem Hold.take {r : Mat} {hs : List Int} (h : Hold r hs) (n : Nat) : Hold r (hs.take n) := fun i y e => by
  have h2 := (List.getElem?_eq_some_iff.mp e).1
  rw [List.length_take] at h2
  rw [List.getElem?_take_of_lt (by omega)] at e
  rw [List.take_take, Nat.min_eq_left (by omega)]
  exact h i y e
theorem Hold.pw {r : Mat} {hs : List Int} : Hold r hs ↔ hs.Pairwise fun x y => st r x y = false := by
  rw [List.pairwise_iff_getElem]
  refine ⟨fun h i j hi hj hij => ?_, fun h j y e => ?_⟩
  · have h1 := kf_none.mp (h j hs[j] (List.getElem?_eq_getElem hj))
    exact h1 _ (List.mem_take_iff_getElem.mpr ⟨i, by omega, rfl⟩)
  · refine kf_none.mpr fun z hz => ?_
    obtain ⟨i, hi, rfl⟩ := List.mem_take_iff_getElem.mp hz
    obtain ⟨hj, rfl⟩ := List.getElem?_eq_some_iff.mp e
    exact h i j (by omega) hj (by omega)
theorem Hold.drop {r : Mat} {hs : List Int} (h : Hold r hs) (n : Nat) : Hold r (hs.drop n) := Hold.pw.mpr ((Hold.pw.mp h).sublist (List.drop_sublist n hs))
theorem Hold.sub {r : Mat} {hs gs : List Int} (h : Hold r hs) (s : gs.Sublist hs) : Hold r gs := Hold.pw.mpr ((Hold.pw.mp h).sublist s)
theorem Hold.nodup {r : Mat} (R : Rel r) {hs : List Int} (h : Hold r hs) (hk : Keys r hs) : hs.Nodup := by
  have h1 := Hold.pw.mp h
  refine List.Pairwise.imp_of_mem (fun {a b} ha hb hab e => ?_) h1
  subst e
  rw [st_self R (hk _ ha)] at hab; cases hab
/-- of a holder is kept itself -/
theorem ko_hold {r : Mat} : ∀ {ks hs : List Int}, Hold r (hs ++ ks) → ko r hs ks = hs ++ ks
  | [], hs, _ => by simp [ko_nil]
  | y :: ks, hs, h => by
    have e : kf r hs y = none := by
      have := h hs.length y (by rw [List.getElem?_append_right (Nat.le_refl _), Nat.sub_self]; rfl)
      rwa [List.take_append_of_le_length (Nat.le_refl _), List.take_length] at this
    rw [ko_cons, wp_none e]
    have e2 : hs ++ y :: ks = hs ++ [y] ++ ks := by simp
    rw [e2] at h ⊢
    exact ko_hold h
theorem ko_self {r : Mat} {hs : List Int} (h : Hold r hs) : ko r [] hs = hs := ko_hold (hs := []) h
theorem ko_again {r : Mat} (R : Rel r) {ks : List Int} (hk : Keys r ks) {t : List Int} (ht : ∀ y ∈ t, y ∈ ks) : ko r [] (ks ++ t) = ko r [] ks := by
  rw [ko_app]
  exact ko_all_found fun y hy => ko_found R hk y (ht y hy)
/-- a held key is found as itself -/
theorem hold_own {r : Mat} (R : Rel r) {hs : List Int} (h : Hold r hs) (hk : Keys r hs) {y : Int} (hy : y ∈ hs) : kf r hs y = some y := by
  obtain ⟨i, hi, rfl⟩ := List.getElem_of_mem hy
  have h1 := h i hs[i] (List.getElem?_eq_getElem hi)
  have e : hs = hs.take i ++ hs[i] :: hs.drop (i + 1) := by rw [List.getElem_cons_drop, List.take_append_drop]
  have h2 : kf r (hs.take i ++ hs[i] :: hs.drop (i + 1)) hs[i] = some hs[i] := by
    rw [kf_app, h1]
    unfold kf
    rw [List.find?_cons, st_self R (hk _ (List.getElem_mem hi))]
    rfl
  rwa [← e] at h2
/-- leaving out a key that is not held -/
theorem ko_leave {r : Mat} {y : Int} : ∀ {ks hs : List Int}, y ∉ ko r hs ks → ko r hs (ks.filter fun x => !decide (x = y)) = ko r hs ks
  | [], _, _ => rfl
  | x :: ks, hs, h => by
    rw [ko_cons] at h ⊢
    by_cases e : x = y
    · subst e
      rw [List.filter_cons_of_neg (by simp)]
      cases e2 : kf r hs x with
      | none =>
        rw [wp_none e2] at h
        obtain ⟨t, e3, _⟩ := ko_pre (r := r) (ks := ks) (hs := hs ++ [x])
        rw [e3] at h
        exact absurd (by simp) h
      | some z =>
        rw [wp_some e2] at h ⊢
        exact ko_leave h
    · rw [List.filter_cons_of_pos (by simp [e]), ko_cons]
      exact ko_leave h
theorem wp_own {r : Mat} (R : Rel r) {hs : List Int} {y : Int} (hy : In r y) (h : kf r hs y = none) : kf r (wp r hs y) y = some y := by
  rw [wp_none h, kf_app, h]
  unfold kf
  rw [List.find?_cons, st_self R hy]
  rfl
theorem ko_take {r : Mat} {hs ks : List Int} (h : Hold r hs) : (ko r [] (hs ++ ks)).take hs.length = hs := by
  rw [ko_app, ko_self h]
  obtain ⟨t, e, _⟩ := ko_pre (r := r) (ks := ks) (hs := hs)
  rw [e, List.take_append_of_le_length (Nat.le_refl _), List.take_length]
/-- dropping the first key -/
theorem drop_first {r : Mat} (R : Rel r) {x : Int} {hs : List Int} (h : Hold r (x :: hs)) (hk : Keys r (x :: hs)) : kf r (x :: hs) x = some x ∧ (x :: hs).filter (fun z => !decide (z = x)) = hs ∧ x ∉ hs := by
  have hn := h.nodup R hk
  rw [List.nodup_cons] at hn
  refine ⟨hold_own R h hk (List.mem_cons_self ..), ?_, hn.1⟩
  rw [List.filter_cons_of_neg (by simp)]
  refine List.filter_eq_self.mpr fun z hz => ?_
  have : z ≠ x := fun e => hn.1 (e ▸ hz)
  simp [this]
end O
namespace O
open J
abbrev ks (r : Mat) : List Int := keysI r.length
theorem ks_in {r : Mat} {x : Int} (h : x ∈ ks r) : In r x := mem_keysI.mp h
theorem in_ks {r : Mat} {x : Int} (h : In r x) : x ∈ ks r := mem_keysI.mpr h
structure Eqv (r : Mat) : Prop where
  sym : ∀ {x y}, In r x → In r y → st r x y = true → st r y x = true
  tra : ∀ {x y z}, In r x → In r y → In r z → st r x y = true → st r y z = true → st r x z = true
def mem (r : Mat) (i : Int) : List Int := (ks r).filter (st r i)
theorem mem_mem {r : Mat} {i x : Int} : x ∈ mem r i ↔ In r x ∧ st r i x = true := by
  unfold mem
  rw [List.mem_filter]
  exact ⟨fun ⟨a, b⟩ => ⟨ks_in a, b⟩, fun ⟨a, b⟩ => ⟨in_ks a, b⟩⟩
theorem mem_self {r : Mat} (R : Rel r) {i : Int} (h : In r i) : i ∈ mem r i := mem_mem.mpr ⟨h, st_self R h⟩
theorem mem_sort (r : Mat) (i : Int) : (mem r i).Pairwise (· < ·) := (keysI_lt _).sublist List.filter_sublist
def cl1 (r : Mat) (p : Nat × List Int) : List (List Int) := if (mem r p.1).head? = some (p.1 : Int) then [mem r p.1] else []
def cls (r : Mat) : List (List Int) := ((List.range r.length).zip r).flatMap (cl1 r)
theorem mem_cls {r : Mat} {lot : List Int} : lot ∈ cls r ↔ ∃ i, In r i ∧ (mem r i).head? = some i ∧ lot = mem r i := by
  unfold cls
  rw [List.mem_flatMap]
  constructor
  · rintro ⟨⟨n, row⟩, hp, hl⟩
    have hn := List.mem_range.mp (List.of_mem_zip hp).1
    unfold cl1 at hl
    split at hl
    · rename_i h
      exact ⟨n, ⟨by omega, by omega⟩, h, List.mem_singleton.mp hl⟩
    · cases hl
  · rintro ⟨i, hi, hh, rfl⟩
    have hlt := hi.lt
    have e : ((i.toNat : Nat) : Int) = i := Int.toNat_of_nonneg hi.1
    refine ⟨(i.toNat, r.getD i.toNat []), ?_, ?_⟩
    · rw [List.mem_iff_getElem?]
      refine ⟨i.toNat, ?_⟩
      rw [List.getElem?_zip_eq_some]
      exact ⟨by rw [List.getElem?_range hlt], rel_row hlt⟩
    · unfold cl1
      rw [e, if_pos hh]
      exact List.mem_singleton.mpr rfl
theorem cls_pw {r : Mat} (E : Eqv r) (R : Rel r) : (cls r).Pairwise fun a b => ∀ x ∈ a, x ∉ b := by
  unfold cls
  rw [List.pairwise_flatMap]
  refine ⟨fun p _ => ?_, ?_⟩
  · unfold cl1
    split
    · exact List.pairwise_singleton ..
    · exact List.Pairwise.nil
  · have hz : ((List.range r.length).zip r).Pairwise fun p q => p.1 < q.1 := by
      have := (List.pairwise_lt_range (n := r.length))
      rw [← List.map_fst_zip (l₁ := List.range r.length) (l₂ := r) (by simp), List.pairwise_map] at this
      exact this
    refine List.Pairwise.imp_of_mem (fun {p q} hp hq hlt a ha b hb x hxa hxb => ?_) hz
    have hpn := List.mem_range.mp (List.of_mem_zip (a := p.1) (b := p.2) hp).1
    have hqn := List.mem_range.mp (List.of_mem_zip (a := q.1) (b := q.2) hq).1
    have hpi : In r p.1 := ⟨by omega, by omega⟩
    have hqi : In r q.1 := ⟨by omega, by omega⟩
    unfold cl1 at ha hb
    split at ha
    · split at hb
      · rename_i h1 h2
        cases List.mem_singleton.mp ha
        cases List.mem_singleton.mp hb
        have ⟨hx, h3⟩ := mem_mem.mp hxa
        have ⟨_, h4⟩ := mem_mem.mp hxb
        have h5 : st r q.1 p.1 = true := E.tra hqi hx hpi h4 (E.sym hpi hx h3)
        have h6 : (p.1 : Int) ∈ mem r q.1 := mem_mem.mpr ⟨hpi, h5⟩
        have h7 := mem_sort r q.1
        cases hm : mem r q.1 with
        | nil => rw [hm] at h6; cases h6
        | cons m ms =>
          rw [hm] at h2 h6 h7
          cases h2
          rcases List.mem_cons.mp h6 with h8 | h8
          · omega
          · have := (List.pairwise_cons.mp h7).1 _ h8
            omega
      · cases hb
    · cases ha
theorem cls_of {r : Mat} (E : Eqv r) (R : Rel r) {x : Int} (hx : In r x) : ∃ lot ∈ cls r, x ∈ lot := by
  have h0 := mem_self R hx
  cases hm : mem r x with
  | nil => rw [hm] at h0; cases h0
  | cons m ms =>
    have h1 : m ∈ mem r x := by rw [hm]; exact List.mem_cons_self ..
    obtain ⟨hmi, h2⟩ := mem_mem.mp h1
    have e : mem r m = mem r x := by
      unfold mem
      refine List.filter_congr fun z hz => ?_
      have hz := ks_in hz
      cases h3 : st r x z with
      | true => exact E.tra hmi hx hz (E.sym hx hmi h2) h3
      | false =>
        cases h4 : st r m z with
        | false => rfl
        | true => rw [E.tra hx hmi hz h2 h4] at h3; cases h3
    refine ⟨mem r x, mem_cls.mpr ⟨m, hmi, ?_, e.symm⟩, h0⟩
    rw [e, hm]; rfl
theorem lot_iff {r : Mat} (E : Eqv r) {lot : List Int} (h : lot ∈ cls r) {x z : Int} (hx : x ∈ lot) (hz : In r z) : z ∈ lot ↔ st r z x = true := by
  obtain ⟨i, hi, _, rfl⟩ := mem_cls.mp h
  obtain ⟨hxi, h1⟩ := mem_mem.mp hx
  rw [mem_mem]
  exact ⟨fun ⟨_, h2⟩ => E.tra hz hi hxi (E.sym hi hz h2) h1, fun h2 => ⟨hz, E.tra hi hxi hz h1 (E.sym hz hxi h2)⟩⟩
theorem ko_tra {r : Mat} (E : Eqv r) (R : Rel r) {ks : List Int} (hk : Keys r ks) {y : Int} (hy : In r y) : kf r (ko r [] ks) y = none ↔ ∀ z ∈ ks, st r z y = false := by
  rw [kf_none]
  refine ⟨fun h z hz => ?_, fun h z hz => h z (ko_sub hz)⟩
  cases e : kf r (ko r [] ks) z with
  | none => exact absurd e (ko_found R hk z hz)
  | some w =>
    obtain ⟨h1, h2⟩ := kf_in e
    have hw := hk w (ko_sub h1)
    cases h3 : st r z y with
    | false => rfl
    | true =>
      have := h w h1
      rw [E.tra hw (hk z hz) hy h2 h3] at this; cases this
/-- what is held: the first key of its class -/
theorem held_iff {r : Mat} (E : Eqv r) (R : Rel r) (x : Int) : ∀ (ks pre : List Int), Keys r (pre ++ ks) → (x ∈ ko r [] (pre ++ ks) ↔ x ∈ ko r [] pre ∨ ∃ a b, ks = a ++ x :: b ∧ (∀ z ∈ pre ++ a, st r z x = false))
  | [], pre, _ => by
    rw [List.append_nil]
    refine ⟨.inl, fun h => h.elim id fun ⟨a, b, e, _⟩ => ?_⟩
    cases a <;> cases e
  | y :: ks, pre, hk => by
    have e : pre ++ y :: ks = (pre ++ [y]) ++ ks := by simp
    have hy : In r y := hk y (by simp)
    rw [e, held_iff E R x ks (pre ++ [y]) (by rw [← e]; exact hk), ko_app]
    show x ∈ wp r (ko r [] pre) y ∨ _ ↔ _
    have hkp : Keys r pre := fun z hz => hk z (List.mem_append_left _ hz)
    constructor
    · rintro (h | ⟨a, b, e1, h1⟩)
      · cases e2 : kf r (ko r [] pre) y with
        | some w => rw [wp_some e2] at h; exact .inl h
        | none =>
          rw [wp_none e2] at h
          rcases List.mem_append.mp h with h | h
          · exact .inl h
          · cases List.mem_singleton.mp h
            exact .inr ⟨[], ks, rfl, fun z hz => (ko_tra E R hkp hy).mp e2 z (by simpa using hz)⟩
      · exact .inr ⟨y :: a, b, by rw [e1]; rfl, fun z hz => h1 z (by simpa using hz)⟩
    · rintro (h | ⟨a, b, e1, h1⟩)
      · left
        obtain ⟨t, e3, _⟩ := wp_pre (r := r) (hs := ko r [] pre) (y := y)
        rw [e3]; exact List.mem_append_left _ h
      · cases a with
        | nil =>
          cases e1
          left
          rw [wp_none ((ko_tra E R hkp hy).mpr fun z hz => h1 z (by simpa using hz))]
          simp
        | cons w a =>
          cases e1
          exact .inr ⟨a, b, rfl, fun z hz => h1 z (by simpa using hz)⟩
def due (r : Mat) (ks : List Int) : List (List Int) := (cls r).map fun lot => (ks.filter fun x => decide (x ∈ lot)).take 1
theorem first_iff {p : Int → Bool} {x : Int} : ∀ {xs : List Int}, x ∈ (xs.filter p).take 1 ↔ p x = true ∧ ∃ a b, xs = a ++ x :: b ∧ ∀ z ∈ a, p z = false
  | [] => by simp
  | y :: xs => by
    cases e : p y with
    | true =>
      rw [List.filter_cons_of_pos e]
      show x ∈ [y] ↔ _
      rw [List.mem_singleton]
      constructor
      · rintro rfl; exact ⟨e, [], xs, rfl, fun z hz => nomatch hz⟩
      · rintro ⟨h, a, b, e1, h1⟩
        cases a with
        | nil => cases e1; rfl
        | cons w a => cases e1; rw [h1 _ (List.mem_cons_self ..)] at e; cases e
    | false =>
      rw [List.filter_cons_of_neg (by rw [e]; exact Bool.false_ne_true), first_iff]
      constructor
      · rintro ⟨h, a, b, rfl, h1⟩
        exact ⟨h, y :: a, b, rfl, fun z hz => (List.mem_cons.mp hz).elim (fun q => q ▸ e) (h1 z)⟩
      · rintro ⟨h, a, b, e1, h1⟩
        cases a with
        | nil => cases e1; rw [h] at e; cases e
        | cons w a => cases e1; exact ⟨h, a, b, rfl, fun z hz => h1 z (List.mem_cons_of_mem _ hz)⟩
theorem due_perm {r : Mat} (E : Eqv r) (R : Rel r) {ks : List Int} (hk : Keys r ks) : (ko r [] ks).Perm (due r ks).flatten := by
  have hko : Keys r (ko r [] ks) := ko_keys (fun x hx => nomatch hx) hk
  refine (List.perm_ext_iff_of_nodup ((Hold.ko hold_nil).nodup R hko) ?_).mpr fun x => ?_
  · unfold due
    rw [← List.flatMap_def]
    refine List.pairwise_flatMap.mpr ⟨fun lot _ => ?_, ?_⟩
    · cases h : ks.filter fun x => decide (x ∈ lot) with
      | nil => exact List.Pairwise.nil
      | cons a b => exact List.pairwise_singleton ..
    · refine (cls_pw E R).imp fun {a b} h x hx y hy e => ?_
      subst e
      exact h x (of_decide_eq_true (first_iff.mp hx).1) (of_decide_eq_true (first_iff.mp hy).1)
  · have h1 := held_iff E R x ks [] (by simpa using hk)
    rw [List.nil_append] at h1
    rw [h1]
    unfold due
    rw [← List.flatMap_def, List.mem_flatMap]
    constructor
    · rintro (h | ⟨a, b, e, h⟩)
      · cases h
      · have hx : In r x := hk x (by rw [e]; simp)
        obtain ⟨lot, hl, hxl⟩ := cls_of E R hx
        refine ⟨lot, hl, first_iff.mpr ⟨decide_eq_true hxl, a, b, e, fun z hz => ?_⟩⟩
        have hz' : In r z := hk z (by rw [e]; simp [hz])
        refine decide_eq_false fun q => ?_
        rw [lot_iff E hl hxl hz', h z (by simpa using hz)] at q
        cases q
    · rintro ⟨lot, hl, h⟩
      obtain ⟨hx, a, b, e, h2⟩ := first_iff.mp h
      have hxl := of_decide_eq_true hx
      refine .inr ⟨a, b, e, fun z hz => ?_⟩
      have hz' : z ∈ a := by simpa using hz
      have hzi : In r z := hk z (by rw [e]; simp [hz'])
      have h3 := of_decide_eq_false (h2 z hz')
      rw [lot_iff E hl hxl hzi] at h3
      simpa using h3
theorem due_len {r : Mat} (R : Rel r) (ks : List Int) : (due r ks).length ≤ r.length ∧ ∀ l ∈ due r ks, l.length ≤ 1 := by
  unfold due
  refine ⟨?_, fun l hl => ?_⟩
  · rw [List.length_map]
    unfold cls
    have : ∀ ps : List (Nat × List Int), (ps.flatMap (cl1 r)).length ≤ ps.length := fun ps => by
      induction ps with
      | nil => exact Nat.le_refl _
      | cons p ps ih =>
        rw [List.flatMap_cons, List.length_append, List.length_cons]
        have : (cl1 r p).length ≤ 1 := by unfold cl1; split <;> simp
        omega
    refine Nat.le_trans (this _) ?_
    rw [List.length_zip, List.length_range]; omega
  · obtain ⟨lot, _, rfl⟩ := List.mem_map.mp hl
    rw [List.length_take]; omega
end O
namespace O
open J
/-! pairs, triples, strangers: plain -/
theorem bit_getD {row : List Int} (h : ∀ x ∈ row, x = 0 ∨ x = 1) (i : Nat) : row.getD i 0 = 0 ∨ row.getD i 0 = 1 := by
  rw [List.getD_eq_getElem?_getD]
  cases e : row[i]? with
  | none => exact .inl rfl
  | some v => exact h v (List.mem_of_getElem? e)
theorem ans_bit {r : Mat} (R : Rel r) (x y : Int) : ans r x y = 0 ∨ ans r x y = 1 := by
  unfold ans
  refine bit_getD (fun z hz => ?_) _
  by_cases h : x.toNat < r.length
  · exact R.bit _ (List.mem_of_getElem? (rel_row h)) z hz
  · rw [List.getD_eq_getElem?_getD, List.getElem?_eq_none (by omega)] at hz
    cases hz
theorem ans_self {r : Mat} (R : Rel r) {x : Int} (hx : In r x) : ans r x x = 1 := of_decide_eq_true (st_self R hx)
theorem ans_gt {r : Mat} (R : Rel r) (x y z w : Int) : decide (ans r x y > ans r z w) = (st r x y && !st r z w) := by
  unfold st
  rcases ans_bit R x y with h1 | h1 <;> rcases ans_bit R z w with h2 | h2 <;> rw [h1, h2] <;> decide
theorem ans_sum {r : Mat} (R : Rel r) (x y z w : Int) : decide (ans r x y + ans r z w > 0) = (st r x y || st r z w) := by
  unfold st
  rcases ans_bit R x y with h1 | h1 <;> rcases ans_bit R z w with h2 | h2 <;> rw [h1, h2] <;> decide
theorem ans_zero {r : Mat} (R : Rel r) (x y : Int) : decide (ans r x y = 0) = !st r x y := by
  unfold st
  rcases ans_bit R x y with h1 | h1 <;> rw [h1] <;> decide
abbrev T3 := Int × Int × Int
def stp (r : Mat) : List T3 := ((ks r).filter fun _ => true).flatMap fun x => ((ks r).filter (st r x)).flatMap fun y => ((ks r).filter (st r y)).flatMap fun z => [(x, y, z)]
def osP (r : Mat) : List (Int × Int) := (ks r).flatMap fun x => ((ks r).filter fun y => st r x y && !st r y x).map fun y => (x, y)
def otP (r : Mat) : List T3 := (stp r).filter fun t => !st r t.1 t.2.2
def leP (r : Mat) : List T3 := (otP r).filter fun t => !st r t.2.2 t.2.1
def strg (r : Mat) (k : Int) (os : List Int) : Bool := !(os.any fun o => st r k o || st r o k)
abbrev t3l (t : T3) : List Int := [t.1, t.2.1, t.2.2]
def loP (r : Mat) : List (List Int) := (otP r).flatMap fun t => ((ks r).filter fun k => strg r k (t3l t)).map fun k => t3l t ++ [k]
theorem filter_all {α : Type} (xs : List α) : (xs.filter fun _ => true) = xs := by simp
theorem otP_eq (r : Mat) : otP r = (ks r).flatMap fun x => ((ks r).filter (st r x)).flatMap fun y => ((ks r).filter fun z => st r y z && !st r x z).map fun z => (x, y, z) := by
  unfold otP stp
  rw [filter_all, List.filter_flatMap]
  congr 1; funext x
  rw [List.filter_flatMap]
  congr 1; funext y
  rw [List.filter_flatMap, List.flatMap_def]
  generalize ks r = xs
  induction xs with
  | nil => rfl
  | cons z xs ih =>
    cases h1 : st r y z <;> cases h2 : st r x z <;> simp_all
theorem mem_ot {r : Mat} {t : T3} : t ∈ otP r ↔ (In r t.1 ∧ In r t.2.1 ∧ In r t.2.2) ∧ st r t.1 t.2.1 = true ∧ st r t.2.1 t.2.2 = true ∧ st r t.1 t.2.2 = false := by
  obtain ⟨x, y, z⟩ := t
  rw [otP_eq]
  simp only [List.mem_flatMap, List.mem_filter, List.mem_map, Prod.mk.injEq, Bool.and_eq_true, Bool.not_eq_true']
  constructor
  · rintro ⟨a, ha, b, ⟨hb, h1⟩, c, ⟨hc, h2, h3⟩, rfl, rfl, rfl⟩
    exact ⟨⟨ks_in ha, ks_in hb, ks_in hc⟩, h1, h2, h3⟩
  · rintro ⟨⟨h1, h2, h3⟩, h4, h5, h6⟩
    exact ⟨x, in_ks h1, y, ⟨in_ks h2, h4⟩, z, ⟨in_ks h3, h5, h6⟩, rfl, rfl, rfl⟩
theorem mem_os {r : Mat} {t : Int × Int} : t ∈ osP r ↔ (In r t.1 ∧ In r t.2) ∧ st r t.1 t.2 = true ∧ st r t.2 t.1 = false := by
  obtain ⟨x, y⟩ := t
  unfold osP
  simp only [List.mem_flatMap, List.mem_filter, List.mem_map, Prod.mk.injEq, Bool.and_eq_true, Bool.not_eq_true']
  constructor
  · rintro ⟨a, ha, b, ⟨hb, h1, h2⟩, rfl, rfl⟩
    exact ⟨⟨ks_in ha, ks_in hb⟩, h1, h2⟩
  · rintro ⟨⟨h1, h2⟩, h4, h5⟩
    exact ⟨x, in_ks h1, y, ⟨in_ks h2, h4, h5⟩, rfl, rfl⟩
theorem flat_le {α β : Type} (f : α → List β) (n : Nat) : ∀ xs : List α, (∀ x ∈ xs, (f x).length ≤ n) → (xs.flatMap f).length ≤ xs.length * n
  | [], _ => by simp
  | x :: xs, h => by
    rw [List.flatMap_cons, List.length_append, List.length_cons, Nat.add_mul, Nat.one_mul]
    have h1 := h x (List.mem_cons_self ..)
    have h2 := flat_le f n xs fun y hy => h y (List.mem_cons_of_mem _ hy)
    omega
theorem ks_len {r : Mat} (R : Rel r) : (ks r).length ≤ 10 := by rw [keysI_len]; exact R.few
theorem filt_le {r : Mat} (R : Rel r) (t : Int → Bool) : ((ks r).filter t).length ≤ 10 := Nat.le_trans (List.length_filter_le t (ks r)) (ks_len R)
theorem mul10 {a : Nat} (h : a ≤ 10) {b : Nat} {c : Nat} (h2 : c ≤ a * b) : c ≤ 10 * b := Nat.le_trans h2 (Nat.mul_le_mul_right _ h)
theorem flat1 {r : Mat} (R : Rel r) (t : Int → Bool) {β : Type} (f : Int → β) : (((ks r).filter t).flatMap fun z => [f z]).length ≤ 10 :=
  mul10 (b := 1) (filt_le R t) (flat_le _ 1 _ fun x _ => Nat.le_refl _)
theorem flat2 {r : Mat} (R : Rel r) (t : Int → Bool) {β : Type} (f : Int → List β) (n : Nat) (h : ∀ x, (f x).length ≤ n) : (((ks r).filter t).flatMap f).length ≤ 10 * n :=
  mul10 (filt_le R t) (flat_le _ n _ fun x _ => h x)
theorem stp_len {r : Mat} (R : Rel r) : (stp r).length ≤ 1000 := flat2 R _ _ 100 fun x => flat2 R _ _ 10 fun y => flat1 R _ _
theorem otP_len {r : Mat} (R : Rel r) : (otP r).length ≤ 1000 := Nat.le_trans (List.length_filter_le _ _) (stp_len R)
theorem osP_len {r : Mat} (R : Rel r) : (osP r).length ≤ 100 := by
  unfold osP
  rw [← filter_all (ks r)]
  refine flat2 R _ _ 10 fun x => ?_
  rw [List.length_map, filter_all]
  exact filt_le R _
/-! classes, by rows that are new -/
def addNew (acc : List (List Int)) (m : List Int) : List (List Int) := if m ∈ acc then acc else acc ++ [m]
theorem mem_same {r : Mat} (E : Eqv r) {m x : Int} (hm : In r m) (hx : In r x) (h : st r x m = true) : mem r m = mem r x := by
  unfold mem
  refine List.filter_congr fun z hz => ?_
  have hz := ks_in hz
  cases h3 : st r x z with
  | true => exact E.tra hm hx hz (E.sym hx hm h) h3
  | false =>
    cases h4 : st r m z with
    | false => rfl
    | true => rw [E.tra hx hm hz h h4] at h3; cases h3
theorem mem_head {r : Mat} (R : Rel r) {i : Int} (hi : In r i) : ∃ m ms, mem r i = m :: ms ∧ m ≤ i ∧ In r m ∧ st r i m = true := by
  have h0 := mem_self R hi
  have h7 := mem_sort r i
  cases hm : mem r i with
  | nil => rw [hm] at h0; cases h0
  | cons m ms =>
    have h1 : m ∈ mem r i := by rw [hm]; exact List.mem_cons_self ..
    obtain ⟨h2, h3⟩ := mem_mem.mp h1
    refine ⟨m, ms, rfl, ?_, h2, h3⟩
    rw [hm] at h0 h7
    rcases List.mem_cons.mp h0 with h8 | h8
    · omega
    · have := (List.pairwise_cons.mp h7).1 _ h8
      omega
theorem cls_step {r : Mat} (E : Eqv r) (R : Rel r) : ∀ (ps : List (Nat × List Int)) (i : Nat), ps = ((List.range r.length).zip r).drop i → ps.foldl (fun acc p => addNew acc (mem r p.1)) ((((List.range r.length).zip r).take i).flatMap (cl1 r)) = cls r
  | [], i, e => by
    have : ((List.range r.length).zip r).length ≤ i := List.drop_eq_nil_iff.mp e.symm
    rw [List.take_of_length_le this]; rfl
  | p :: ps, i, e => by
    have hlt : i < ((List.range r.length).zip r).length := by
      rcases Nat.lt_or_ge i ((List.range r.length).zip r).length with h | h
      · exact h
      · rw [List.drop_eq_nil_iff.mpr h] at e; cases e
    have hi : i < r.length := by rw [List.length_zip, List.length_range] at hlt; omega
    have ep : p = (i, r[i]) ∧ ps = ((List.range r.length).zip r).drop (i + 1) := by
      rw [List.drop_eq_getElem_cons hlt] at e
      injection e with e1 e2
      exact ⟨by rw [e1, List.getElem_zip, List.getElem_range], e2⟩
    obtain ⟨rfl, e2⟩ := ep
    rw [List.foldl_cons, ← cls_step E R ps (i + 1) e2]
    congr 1
    have et : ((List.range r.length).zip r).take (i + 1) = ((List.range r.length).zip r).take i ++ [(i, r[i])] := by
      rw [List.take_succ, List.getElem?_eq_getElem hlt, List.getElem_zip, List.getElem_range]; rfl
    rw [et, List.flatMap_append]
    have hin : In r i := ⟨by omega, by omega⟩
    obtain ⟨m, ms, hm, hle, hmi, hst⟩ := mem_head R hin
    have inacc : ∀ lot, lot ∈ (((List.range r.length).zip r).take i).flatMap (cl1 r) ↔ ∃ j : Nat, j < i ∧ (mem r j).head? = some (j : Int) ∧ lot = mem r j := fun lot => by
      rw [List.mem_flatMap]
      constructor
      · rintro ⟨⟨n, row⟩, hp, hl⟩
        obtain ⟨q, hq, eq⟩ := List.mem_take_iff_getElem.mp hp
        rw [List.getElem_zip, List.getElem_range] at eq
        cases eq
        unfold cl1 at hl
        split at hl
        · rename_i h
          exact ⟨n, by omega, h, List.mem_singleton.mp hl⟩
        · cases hl
      · rintro ⟨j, hj, hh, rfl⟩
        refine ⟨(j, r[j]'(by omega)), List.mem_take_iff_getElem.mpr ⟨j, by omega, by rw [List.getElem_zip, List.getElem_range]⟩, ?_⟩
        unfold cl1
        rw [if_pos hh]
        exact List.mem_singleton.mpr rfl
    generalize (((List.range r.length).zip r).take i).flatMap (cl1 r) = acc at inacc
    rw [List.flatMap_cons, List.flatMap_nil, List.append_nil]
    unfold addNew cl1
    simp only
    by_cases hmi' : m = i
    · have hnc : mem r i ∉ acc := fun hc => by
        obtain ⟨j, hj, hh, ee⟩ := (inacc _).mp hc
        rw [← ee, hm, hmi'] at hh
        have : (i : Int) = j := Option.some.inj hh
        omega
      rw [if_neg hnc, if_pos (by rw [hm, hmi']; rfl)]
    · have hc : mem r i ∈ acc := by
        refine (inacc _).mpr ⟨m.toNat, by have := hmi.1; omega, ?_, ?_⟩
        · rw [Int.toNat_of_nonneg hmi.1, mem_same E hmi hin hst, hm]; rfl
        · rw [Int.toNat_of_nonneg hmi.1, mem_same E hmi hin hst]
      rw [if_pos hc, if_neg (by rw [hm]; intro z; exact hmi' (Option.some.inj z)), List.append_nil]
theorem cls_new {r : Mat} (E : Eqv r) (R : Rel r) : ((List.range r.length).zip r).foldl (fun acc p => addNew acc (mem r p.1)) [] = cls r := cls_step E R _ 0 rfl
theorem eqv_of {r : Mat} (h1 : osP r = []) (h2 : otP r = []) : Eqv r := by
  constructor
  · intro x y hx hy hs
    cases e : st r y x with
    | true => rfl
    | false =>
      have : (x, y) ∈ osP r := mem_os.mpr ⟨⟨hx, hy⟩, hs, e⟩
      rw [h1] at this; cases this
  · intro x y z hx hy hz hxy hyz
    cases e : st r x z with
    | true => rfl
    | false =>
      have : (x, y, z) ∈ otP r := mem_ot.mpr ⟨⟨hx, hy, hz⟩, hxy, hyz, e⟩
      rw [h2] at this; cases this
end O
/-! A logic over plain data: what an expression, a statement, a def does to trees of data and to a small store of things that change. -/
namespace J
open PySem PySem.Spec PyProof.Rows L2

/-- plain data; ptr: a thing of the store; val: any other value -/
inductive D where
  | non | bl (b : Bool) | int (i : Int) | str (x : Str)
  | tup (ds : List D) | lst (ds : List D) | ptr (k : Nat) | val (v : V)
inductive Cell where
  | lst (ds : List D) | dK (kvs : List (Key × D)) | dT (kvs : List (List Key × D)) | gone
abbrev Store := List Cell
abbrev Sl := List (Option D)
/-- where the things of the store stand; fr: addresses that are set apart -/
structure Mu where
  m : List (Option Addr)
  fr : List Addr
def Mu.Off (u : Mu) (a : Addr) : Prop := some a ∉ u.m ∧ a ∉ u.fr
abbrev H00 : Hp := fun _ => none
def SqLo (u : Mu) (H : Hp) (a : Addr) (vs : List V) : Prop := H a = some (.lst vs) ∧ u.Off a
def SqTo (K : PySem.W.Frag) (u : Mu) (H : Hp) (a : Addr) (vs : List V) : Prop := (Rd H a (.tup vs) ∧ u.Off a) ∨ SqT K H00 a vs
theorem SqLo.sq {K : PySem.W.Frag} {u : Mu} {H : Hp} {a : Addr} {vs : List V} (h : SqLo u H a vs) : SqL K H a vs := .inl (.inl h.1)
theorem SqTo.sq {K : PySem.W.Frag} {u : Mu} {H : Hp} {a : Addr} {vs : List V} (h : SqTo K u H a vs) : SqT K H a vs := by
  rcases h with h | (h | ⟨o, h⟩) | h
  · exact .inl h.1
  · cases h
  · cases h
  · exact .inr h

section
variable (K : PySem.W.Frag) (u : Mu) (H : Hp)
mutual
inductive Rp : V → D → Prop
  | non : Rp .non .non
  | bl (b : Bool) : Rp (.bl b) (.bl b)
  | int (i : Int) : Rp (.int i) (.int i)
  | str (x : Str) : Rp (.str x) (.str x)
  | tup {a : Addr} {vs : List V} {ds : List D} : SqTo K u H a vs → RpA vs ds → Rp (.ref a) (.tup ds)
  | lst {a : Addr} {vs : List V} {ds : List D} : SqLo u H a vs → RpA vs ds → Rp (.ref a) (.lst ds)
  | ptr {k : Nat} {a : Addr} : u.m[k]? = some (some a) → Rp (.ref a) (.ptr k)
  | val (v : V) : Rp v (.val v)
inductive RpA : List V → List D → Prop
  | nil : RpA [] []
  | cons {v : V} {vs : List V} {d : D} {ds : List D} : Rp v d → RpA vs ds → RpA (v :: vs) (d :: ds)
end
def CellR (a : Addr) : Cell → Prop
  | .lst ds => ∃ vs, H a = some (.lst vs) ∧ RpA K u H vs ds
  | .dK kvs => ∃ ws, H a = some (.dK ws) ∧ ws.map (·.1) = kvs.map (·.1) ∧ RpA K u H (ws.map (·.2)) (kvs.map (·.2))
  | .dT kvs => ∃ ws, H a = some (.dT ws) ∧ ws.map (·.1) = kvs.map (·.1) ∧ RpA K u H (ws.map (·.2)) (kvs.map (·.2))
  | .gone => True
end

structure StoR (K : PySem.W.Frag) (u : Mu) (H : Hp) (S : Store) : Prop where
  len : u.m.length = S.length
  inj : ∀ (i j : Nat) a, u.m[i]? = some (some a) → u.m[j]? = some (some a) → i = j
  trk : ∀ a, some a ∈ u.m → ∃ o, H a = some o
  trf : ∀ a, a ∈ u.fr → (∃ o, H a = some o) ∧ some a ∉ u.m
  sto : ∀ (k : Nat) c, S[k]? = some c → c = .gone ∨ ∃ a, u.m[k]? = some (some a) ∧ CellR K u H a c
structure EnvV (K : PySem.W.Frag) (u : Mu) (H : Hp) (σ : L2.St) (ρ : Sl) : Prop where
  len : ρ.length ≤ σ.length
  get : ∀ (i : Nat) d, ρ[i]? = some (some d) → ∃ v, σ[i]? = some (some v) ∧ Rp K u H v d

/-- what is new is new, what stood still stands; the first n things of the store stand where they stood -/
structure AdvF (n : Nat) (u : Mu) (H : Hp) (u' : Mu) (H' : Hp) : Prop where
  pre : ∀ k : Nat, k < n → u'.m[k]? = u.m[k]?
  new : ∀ (k : Nat) a, u'.m[k]? = some (some a) → some a ∈ u.m ∨ H a = none
  keep : ∀ a o, H a = some o → u.Off a → H' a = some o
  mono : ∀ a o, H a = some o → ∃ o', H' a = some o'
  frn : ∀ a, a ∈ u'.fr → a ∈ u.fr ∨ H a = none
theorem AdvF.refl (n : Nat) (u : Mu) (H : Hp) : AdvF n u H u H :=
  ⟨fun _ _ => rfl, fun k a e => .inl (List.mem_of_getElem? e), fun _ _ e _ => e, fun _ o e => ⟨o, e⟩, fun _ h => .inl h⟩
theorem AdvF.back {n : Nat} {u u' : Mu} {H H' : Hp} (a : AdvF n u H u' H') {x : Addr} (h : H' x = none) : H x = none := by
  cases q : H x with
  | none => rfl
  | some o =>
    obtain ⟨o', q'⟩ := a.mono x o q
    rw [q'] at h; cases h
theorem AdvF.off {u u' : Mu} {H H' : Hp} {n : Nat} (A : AdvF n u H u' H') {a : Addr} {o : HO} (ho : u.Off a) (h : H a = some o) : u'.Off a := by
  refine ⟨fun hm => ?_, fun hm => ?_⟩
  · obtain ⟨j, hj⟩ := List.mem_iff_getElem?.mp hm
    rcases A.new j a hj with h1 | h1
    · exact ho.1 h1
    · rw [h1] at h; cases h
  · rcases A.frn a hm with h1 | h1
    · exact ho.2 h1
    · rw [h1] at h; cases h
theorem AdvF.trans {n n' : Nat} {u u1 u2 : Mu} {H H1 H2 : Hp} (a : AdvF n u H u1 H1) (b : AdvF n' u1 H1 u2 H2) (h : n ≤ n') : AdvF n u H u2 H2 where
  pre := fun k hk => (b.pre k (Nat.lt_of_lt_of_le hk h)).trans (a.pre k hk)
  new := fun k x e => by
    rcases b.new k x e with h1 | h1
    · obtain ⟨j, hj⟩ := List.mem_iff_getElem?.mp h1
      exact a.new j x hj
    · exact .inr (a.back h1)
  keep := fun x o e hx => b.keep x o (a.keep x o e hx) (a.off hx e)
  mono := fun x o e => by
    obtain ⟨o', e'⟩ := a.mono x o e
    exact b.mono x o' e'
  frn := fun x hx => by
    rcases b.frn x hx with h1 | h1
    · exact a.frn x h1
    · exact .inr (a.back h1)
structure Adv (n : Nat) (u : Mu) (H : Hp) (u' : Mu) (H' : Hp) : Prop extends AdvF n u H u' H' where
  fr : u'.fr = u.fr
  frk : ∀ a, a ∈ u.fr → H' a = H a
theorem Adv.refl (n : Nat) (u : Mu) (H : Hp) : Adv n u H u H := ⟨.refl n u H, rfl, fun _ _ => rfl⟩
theorem Adv.trans {n n' : Nat} {u u1 u2 : Mu} {H H1 H2 : Hp} (a : Adv n u H u1 H1) (b : Adv n' u1 H1 u2 H2) (h : n ≤ n') : Adv n u H u2 H2 := ⟨a.toAdvF.trans b.toAdvF h, b.fr.trans a.fr, fun x hx => (b.frk x (by rw [a.fr]; exact hx)).trans (a.frk x hx)⟩
theorem AdvF.weak {n n' : Nat} {u u' : Mu} {H H' : Hp} (a : AdvF n u H u' H') (h : n' ≤ n) : AdvF n' u H u' H' :=
  ⟨fun k hk => a.pre k (Nat.lt_of_lt_of_le hk h), a.new, a.keep, a.mono, a.frn⟩
theorem Adv.weak {n n' : Nat} {u u' : Mu} {H H' : Hp} (a : Adv n u H u' H') (h : n' ≤ n) : Adv n' u H u' H' := ⟨a.toAdvF.weak h, a.fr, a.frk⟩

section
variable {K : PySem.W.Frag} {u u' : Mu} {H H' : Hp} {n : Nat}
/-- what data asks of a change -/
structure Tr (n : Nat) (u : Mu) (H : Hp) (u' : Mu) (H' : Hp) : Prop where
  pre : ∀ k : Nat, k < n → u'.m[k]? = u.m[k]?
  keep : ∀ a o, H a = some o → u.Off a → H' a = some o ∧ u'.Off a
theorem AdvF.tr' (A : AdvF n u H u' H') : Tr n u H u' H' := ⟨A.pre, fun a o e ho => ⟨A.keep a o e ho, A.off ho e⟩⟩
theorem SqLo.mv (A : Tr n u H u' H') {a : Addr} {vs : List V} (h : SqLo u H a vs) : SqLo u' H' a vs := A.keep _ _ h.1 h.2
theorem SqTo.mv (A : Tr n u H u' H') {a : Addr} {vs : List V} (h : SqTo K u H a vs) : SqTo K u' H' a vs := by
  rcases h with ⟨h | ⟨o, h⟩, ho⟩ | h
  · exact .inl ⟨.inl (A.keep _ _ h ho).1, (A.keep _ _ h ho).2⟩
  · exact .inl ⟨.inr ⟨o, (A.keep _ _ h ho).1⟩, (A.keep _ _ h ho).2⟩
  · exact .inr h
mutual
theorem Rp.mv (hl : u.m.length ≤ n) (A : Tr n u H u' H') : ∀ {v : V} {d : D}, Rp K u H v d → Rp K u' H' v d
  | _, _, .non => .non
  | _, _, .bl b => .bl b
  | _, _, .int i => .int i
  | _, _, .str x => .str x
  | _, _, .tup h r => .tup (h.mv A) (RpA.mv hl A r)
  | _, _, .lst h r => .lst (h.mv A) (RpA.mv hl A r)
  | _, _, .ptr (k := k) e => .ptr ((A.pre k (Nat.lt_of_lt_of_le (List.getElem?_eq_some_iff.mp e).1 hl)).trans e)
  | _, _, .val v => .val v
theorem RpA.mv (hl : u.m.length ≤ n) (A : Tr n u H u' H') : ∀ {vs : List V} {ds : List D}, RpA K u H vs ds → RpA K u' H' vs ds
  | _, _, .nil => .nil
  | _, _, .cons r t => .cons (Rp.mv hl A r) (RpA.mv hl A t)
end
theorem SqLo.adv (A : AdvF n u H u' H') {a : Addr} {vs : List V} (h : SqLo u H a vs) : SqLo u' H' a vs := h.mv A.tr'
theorem SqTo.adv (A : AdvF n u H u' H') {a : Addr} {vs : List V} (h : SqTo K u H a vs) : SqTo K u' H' a vs := h.mv A.tr'
theorem Rp.adv (hl : u.m.length ≤ n) (A : AdvF n u H u' H') {v : V} {d : D} (r : Rp K u H v d) : Rp K u' H' v d := r.mv hl A.tr'
theorem RpA.adv (hl : u.m.length ≤ n) (A : AdvF n u H u' H') {vs : List V} {ds : List D} (r : RpA K u H vs ds) : RpA K u' H' vs ds := r.mv hl A.tr'
theorem CellR.mv {a : Addr} {c : Cell} (hl : u.m.length ≤ n) (A : Tr n u H u' H') (ha : H' a = H a) (r : CellR K u H a c) : CellR K u' H' a c := by
  cases c with
  | lst ds => obtain ⟨vs, e, q⟩ := r; exact ⟨vs, ha.trans e, q.mv hl A⟩
  | dK ds => obtain ⟨vs, e, e2, q⟩ := r; exact ⟨vs, ha.trans e, e2, q.mv hl A⟩
  | dT ds => obtain ⟨vs, e, e2, q⟩ := r; exact ⟨vs, ha.trans e, e2, q.mv hl A⟩
  | gone => trivial
end
theorem RpA.length {K : PySem.W.Frag} {u : Mu} {H : Hp} : ∀ {vs : List V} {ds : List D}, RpA K u H vs ds → vs.length = ds.length
  | _, _, .nil => rfl
  | _, _, .cons _ t => by rw [List.length_cons, List.length_cons, RpA.length t]
theorem RpA.get {K : PySem.W.Frag} {u : Mu} {H : Hp} : ∀ {vs : List V} {ds : List D} {i : Nat} {v : V}, RpA K u H vs ds → vs[i]? = some v → ∃ d, ds[i]? = some d ∧ Rp K u H v d
  | _, _, _, _, .nil, e => by simp at e
  | _, _, 0, _, .cons r _, e => by simp at e; subst e; exact ⟨_, rfl, r⟩
  | _, _, i + 1, v, .cons _ t, e => by
    obtain ⟨d, h1, h2⟩ := RpA.get (i := i) (v := v) t (by simpa using e)
    exact ⟨d, by simpa using h1, h2⟩
theorem RpA.of {K : PySem.W.Frag} {u : Mu} {H : Hp} : ∀ {vs : List V} {ds : List D} {i : Nat} {d : D}, RpA K u H vs ds → ds[i]? = some d → ∃ v, vs[i]? = some v ∧ Rp K u H v d
  | _, _, _, _, .nil, e => by simp at e
  | _, _, 0, _, .cons r _, e => by simp at e; subst e; exact ⟨_, rfl, r⟩
  | _, _, i + 1, d, .cons _ t, e => by
    obtain ⟨v, h1, h2⟩ := RpA.of (i := i) (d := d) t (by simpa using e)
    exact ⟨v, by simpa using h1, h2⟩
theorem RpA.append {K : PySem.W.Frag} {u : Mu} {H : Hp} : ∀ {vs ws : List V} {ds es : List D}, RpA K u H vs ds → RpA K u H ws es → RpA K u H (vs ++ ws) (ds ++ es)
  | _, _, _, _, .nil, s => s
  | _, _, _, _, .cons r t, s => .cons r (RpA.append t s)
theorem RpA.take {K : PySem.W.Frag} {u : Mu} {H : Hp} : ∀ {vs : List V} {ds : List D} (n : Nat), RpA K u H vs ds → RpA K u H (vs.take n) (ds.take n)
  | _, _, 0, _ => .nil
  | _, _, _ + 1, .nil => .nil
  | _, _, n + 1, .cons r t => .cons r (RpA.take n t)
theorem RpA.drop {K : PySem.W.Frag} {u : Mu} {H : Hp} : ∀ {vs : List V} {ds : List D} (n : Nat), RpA K u H vs ds → RpA K u H (vs.drop n) (ds.drop n)
  | _, _, 0, r => r
  | _, _, _ + 1, .nil => .nil
  | _, _, n + 1, .cons _ t => RpA.drop n t
theorem RpA.set {K : PySem.W.Frag} {u : Mu} {H : Hp} {v : V} {d : D} (r : Rp K u H v d) : ∀ {vs : List V} {ds : List D} (i : Nat), RpA K u H vs ds → RpA K u H (vs.set i v) (ds.set i d)
  | _, _, _, .nil => .nil
  | _, _, 0, .cons _ t => .cons r t
  | _, _, i + 1, .cons q t => .cons q (RpA.set r i t)
end J
namespace J
open PySem PySem.Spec PyProof.Rows L2

/-! ### the meaning of a piece of the text, as wide as it goes -/
def wE (X : Cx) (e : Expr) : TE := fun σ H Q => ∀ pins s, Inv X pins σ H s → wpAny (model X.prog X.w) X.A (eval e X.env) (EP X pins σ Q) X.xe s
def wT (X : Cx) (e : Expr) : TT := fun σ H Q => ∀ pins s, Inv X pins σ H s → wpAny (model X.prog X.w) X.A (isTrue e X.env (eval e X.env)) (TP X pins σ Q) X.xe s
def wA (X : Cx) (es : List Expr) : TA := fun σ H Q => ∀ pos pins s, Inv X pins σ H s → wpAny (model X.prog X.w) X.A (spliced (backTo pos (starEach es X.env))) (AP X pins σ Q) X.xe s
def wS (X : Cx) (st : Stmt) : TS := fun D σ H => ∀ pins s, Inv X pins σ H s → wpAny (model X.prog X.w) X.A (exec st X.env) (SP X pins D) X.xe s
def wSs (X : Cx) (st : List Stmt) : TS := fun D σ H => ∀ pins s, Inv X pins σ H s → wpAny (model X.prog X.w) X.A (execs st X.env) (SP X pins D) X.xe s
section
variable {X : Cx} {e : Expr} {es : List Expr} {st : Stmt} {sts : List Stmt}
theorem pe_w : PE X e (wE X e) := ⟨fun pins s _ _ _ I h => h pins s I⟩
theorem pt_w : PT X e (wT X e) := ⟨fun pins s _ _ _ I h => h pins s I⟩
theorem pa_w : PA X es (wA X es) := ⟨fun pos pins s _ _ _ I h => h pos pins s I⟩
theorem ps_w : PS X st (wS X st) := ⟨fun pins s _ _ _ I h => h pins s I⟩
theorem pss_w : PSs X sts (wSs X sts) := ⟨fun pins s _ _ _ I h => h pins s I⟩
theorem wE_of {t : TE} {σ H Q} (h : PE X e t) (q : t σ H Q) : wE X e σ H Q := fun pins s I => h.run pins s σ H Q I q
theorem wT_of {t : TT} {σ H Q} (h : PT X e t) (q : t σ H Q) : wT X e σ H Q := fun pins s I => h.run pins s σ H Q I q
theorem wA_of {t : TA} {σ H Q} (h : PA X es t) (q : t σ H Q) : wA X es σ H Q := fun pos pins s I => h.run pos pins s σ H Q I q
theorem wS_of {t : TS} {D σ H} (h : PS X st t) (q : t D σ H) : wS X st D σ H := fun pins s I => h.run pins s σ H D I q
theorem wSs_of {t : TS} {D σ H} (h : PSs X sts t) (q : t D σ H) : wSs X sts D σ H := fun pins s I => h.run pins s σ H D I q
end

/-! ### over data -/
def Good (K : PySem.W.Frag) (P : D → Store → Prop) (u : Mu) (H : Hp) (v : V) (H' : Hp) : Prop :=
  ∃ u' d S', Adv u.m.length u H u' H' ∧ StoR K u' H' S' ∧ Rp K u' H' v d ∧ P d S'
def GoodA (K : PySem.W.Frag) (P : List D → Store → Prop) (u : Mu) (H : Hp) (vs : List V) (H' : Hp) : Prop :=
  ∃ u' ds S', Adv u.m.length u H u' H' ∧ StoR K u' H' S' ∧ RpA K u' H' vs ds ∧ P ds S'
def GoodT (K : PySem.W.Frag) (P : Bool → Store → Prop) (u : Mu) (H : Hp) (b : Bool) (H' : Hp) : Prop :=
  ∃ u' S', Adv u.m.length u H u' H' ∧ StoR K u' H' S' ∧ P b S'
/-- what is wanted of an exception: its class, its fields, the store -/
abbrev Bad := Value → List (Str × D) → Store → Prop
abbrev B0 : Bad := fun _ _ _ => False
def XdR (K : PySem.W.Frag) (u : Mu) (H : Hp) (fs : List (Str × D)) : Option Addr → Prop
  | none => fs = []
  | some a => ∃ ws, H a = some (.xd ws) ∧ u.Off a ∧ ws.map (·.1) = fs.map (·.1) ∧ RpA K u H (ws.map (·.2)) (fs.map (·.2))
def GoodX (K : PySem.W.Frag) (B : Bad) (u : Mu) (H : Hp) (cls : Value) (dx : Option Addr) (H' : Hp) : Prop :=
  ∃ u' fs S', Adv u.m.length u H u' H' ∧ StoR K u' H' S' ∧ XdR K u' H' fs dx ∧ B cls fs S'
def Wish (X : Cx) (B : Bad) (u : Mu) (H : Hp) : Prop := ∃ W : WX, Takes X W ∧ ∀ cls dx σ' H', GoodX X.K B u H cls dx H' → W cls dx σ' H'
def JE (X : Cx) (e : Expr) (ρ : Sl) (S : Store) (P : D → Store → Prop) (B : Bad) : Prop :=
  ∀ u σ H Q, Wish X B u H → StoR X.K u H S → EnvV X.K u H σ ρ → (∀ v H', Good X.K P u H v H' → Q v H') → wE X e σ H Q
def JT (X : Cx) (e : Expr) (ρ : Sl) (S : Store) (P : Bool → Store → Prop) (B : Bad) : Prop :=
  ∀ u σ H Q, Wish X B u H → StoR X.K u H S → EnvV X.K u H σ ρ → (∀ b H', GoodT X.K P u H b H' → Q b H') → wT X e σ H Q
def JA (X : Cx) (es : List Expr) (ρ : Sl) (S : Store) (P : List D → Store → Prop) (B : Bad) : Prop :=
  ∀ u σ H Q, Wish X B u H → StoR X.K u H S → EnvV X.K u H σ ρ → (∀ vs H', GoodA X.K P u H vs H' → Q vs H') → wA X es σ H Q

/-- an operation on two values, by data -/
def OpD (K : PySem.W.Frag) (r : R2) (d1 d2 : D) (S : Store) (P : D → Store → Prop) : Prop :=
  ∀ u H v1 v2 Q, StoR K u H S → Rp K u H v1 d1 → Rp K u H v2 d2 → (∀ v H', (Good K P u H v H') → Q v H') → r v1 v2 H Q
def UnD (K : PySem.W.Frag) (r : V → Hp → VK → Prop) (d : D) (S : Store) (P : D → Store → Prop) : Prop :=
  ∀ u H v1 Q, StoR K u H S → Rp K u H v1 d → (∀ v H', (Good K P u H v H') → Q v H') → r v1 H Q
def CaD (K : PySem.W.Frag) (r : List V → Hp → VK → Prop) (ds : List D) (S : Store) (P : D → Store → Prop) : Prop :=
  ∀ u H vs Q, StoR K u H S → RpA K u H vs ds → (∀ v H', (Good K P u H v H') → Q v H') → r vs H Q

section
variable {K : PySem.W.Frag} {u u' u1 : Mu} {H H' H1 : Hp} {S S' : Store} {n : Nat} {ρ : Sl} {σ : L2.St} {P P' : D → Store → Prop}
theorem EnvV.advF (E : EnvV K u H σ ρ) (A : AdvF u.m.length u H u' H') : EnvV K u' H' σ ρ := ⟨E.len, fun i d e => by
  obtain ⟨v, hv, r⟩ := E.get i d e
  exact ⟨v, hv, r.adv (Nat.le_refl _) A⟩⟩
theorem EnvV.adv (E : EnvV K u H σ ρ) (A : Adv u.m.length u H u' H') : EnvV K u' H' σ ρ := E.advF A.toAdvF
theorem Rp.go {v : V} {d : D} (r : Rp K u H v d) (A : Adv u.m.length u H u' H') : Rp K u' H' v d := r.adv (Nat.le_refl _) A.toAdvF
theorem RpA.go {v : List V} {d : List D} (r : RpA K u H v d) (A : Adv u.m.length u H u' H') : RpA K u' H' v d := r.adv (Nat.le_refl _) A.toAdvF
theorem AdvF.len (A : AdvF u.m.length u H u' H') : u.m.length ≤ u'.m.length := by
  rcases Nat.lt_or_ge u'.m.length u.m.length with h | h
  · have h1 := A.pre u'.m.length h
    rw [List.getElem?_eq_none (Nat.le_refl _)] at h1
    have h2 := List.getElem?_eq_getElem h
    rw [h2] at h1; cases h1
  · exact h
theorem Adv.len (A : Adv u.m.length u H u' H') : u.m.length ≤ u'.m.length := A.toAdvF.len
theorem Adv.tr {u2 : Mu} {H2 : Hp} (a : Adv u.m.length u H u1 H1) (b : Adv u1.m.length u1 H1 u2 H2) : Adv u.m.length u H u2 H2 := a.trans b a.len
theorem GoodX.after {B : Bad} {cls : Value} {dx : Option Addr} (A : Adv u.m.length u H u1 H1) (g : GoodX K B u1 H1 cls dx H') : GoodX K B u H cls dx H' := by
  obtain ⟨u', fs, S', A', hS, r, h⟩ := g
  exact ⟨u', fs, S', A.tr A', hS, r, h⟩
theorem Wish.after {X : Cx} {B : Bad} (w : Wish X B u H) (A : Adv u.m.length u H u1 H1) : Wish X B u1 H1 := by
  obtain ⟨W, t, h⟩ := w
  exact ⟨W, t, fun cls dx σ' H' g => h cls dx σ' H' (g.after A)⟩
theorem Wish.zero {X : Cx} : Wish X B0 u H := ⟨fun _ _ _ _ => False, takes0, fun _ _ _ _ ⟨_, _, _, _, _, _, z⟩ => z⟩
theorem Good.here (hS : StoR K u H S) {v : V} {d : D} (r : Rp K u H v d) (h : P d S) : Good K P u H v H := ⟨u, d, S, .refl _ _ _, hS, r, h⟩
theorem Good.after (A : Adv u.m.length u H u1 H1) {v : V} (g : Good K P u1 H1 v H') : Good K P u H v H' := by
  obtain ⟨u', d, S', A', hS, r, h⟩ := g
  exact ⟨u', d, S', A.tr A', hS, r, h⟩
theorem Good.mono {v : V} (g : Good K P u H v H') (h : ∀ d S, P d S → P' d S) : Good K P' u H v H' := by
  obtain ⟨u', d, S', A', hS, r, q⟩ := g
  exact ⟨u', d, S', A', hS, r, h _ _ q⟩
end

section
variable {X : Cx} {a b c : Expr} {es : List Expr} {ρ : Sl} {S : Store} {P P' : D → Store → Prop} {B : Bad} {pos : Pos}
theorem JE.mono (h : JE X a ρ S P B) (hp : ∀ d S, P d S → P' d S) : JE X a ρ S P' B := fun u σ H Q hW hS hE hQ => h u σ H Q hW hS hE fun v H' g => hQ v H' (g.mono hp)
/-- from any rule of the layer -/
theorem je_of {t : TE} (h : PE X a t) (q : ∀ u σ H Q, Wish X B u H → StoR X.K u H S → EnvV X.K u H σ ρ → (∀ v H', (Good X.K P u H v H') → Q v H') → t σ H Q) : JE X a ρ S P B := fun u σ H Q hW hS hE hQ =>
  wE_of h (q u σ H _ hW hS hE hQ)
theorem je_var {i : Nat} {x : Str} {d : D} (hN : X.N[i]? = some x) (hv : Vis X.env.scope x) (hd : ρ[i]? = some (some d)) (h : P d S) (h1 : (x == ("__debug__" : Str)) = false := by decide) (h2 : (x == ("__classdict__" : Str)) = false := by decide) : JE X (.Name x pos) ρ S P B :=
  je_of (pe_var hN hv h1 h2) fun u σ H Q hW hS hE hQ => by
    obtain ⟨v, hv, r⟩ := hE.get i d hd
    exact ⟨v, hv, hQ v H (.here hS r h)⟩
theorem je_int {i : Int} {j} (h : P (.int i) S) : JE X (.Constant (.int i) j pos) ρ S P B := je_of pe_int fun u σ H Q _ hS _ hQ => hQ _ H (.here hS (.int i) h)
theorem je_bl {i : Bool} {j} (h : P (.bl i) S) : JE X (.Constant (.bool i) j pos) ρ S P B := je_of pe_bl fun u σ H Q _ hS _ hQ => hQ _ H (.here hS (.bl i) h)
theorem je_non {j} (h : P .non S) : JE X (.Constant .none j pos) ρ S P B := je_of pe_non fun u σ H Q _ hS _ hQ => hQ _ H (.here hS .non h)
theorem je_str {x : Str} {j} (h : P (.str x) S) : JE X (.Constant (.str x) j pos) ρ S P B := je_of pe_str fun u σ H Q _ hS _ hQ => hQ _ H (.here hS (.str x) h)
theorem je2 {R : R2} (h : JE X a ρ S (fun d1 S1 => JE X b ρ S1 (fun d2 S2 => OpD X.K R d1 d2 S2 P) B) B) {e : Expr} (hp : ∀ {ta tb : TE}, PE X a ta → PE X b tb → PE X e (tOp R ta tb)) : JE X e ρ S P B :=
  je_of (hp pe_w pe_w) fun u σ H Q hW hS hE hQ =>
    h u σ H _ hW hS hE fun v1 H1 ⟨u1, d1, S1, A1, hS1, r1, h1⟩ => h1 u1 σ H1 _ (hW.after A1) hS1 (hE.adv A1) fun v2 H2 ⟨u2, d2, S2, A2, hS2, r2, h2⟩ =>
      h2 u2 H2 v1 v2 Q hS2 (r1.go A2) r2 fun v H' g => hQ v H' (g.after (A1.tr A2))
theorem je_op {op : Operator} {R : R2} (ho : OpR X (binaryOp op) R) (h : JE X a ρ S (fun d1 S1 => JE X b ρ S1 (fun d2 S2 => OpD X.K R d1 d2 S2 P) B) B) : JE X (.BinOp a op b pos) ρ S P B := je2 h fun ha hb => pe_op ho ha hb
theorem je_cmp {op : CmpOp} {R : R2} (ho : OpR X (compareOp op) R) (hm : behindInMarks op b = false) (h : JE X a ρ S (fun d1 S1 => JE X b ρ S1 (fun d2 S2 => OpD X.K R d1 d2 S2 P) B) B) : JE X (.Compare a [op] [b] pos) ρ S P B := je2 h fun ha hb => pe_cmpR ho ha hb hm
theorem je_ix {R : R2} (hr : IxR X R) (hs : PlainIx b) (h : JE X a ρ S (fun d1 S1 => JE X b ρ S1 (fun d2 S2 => OpD X.K R d1 d2 S2 P) B) B) : JE X (.Subscript a b pos) ρ S P B := je2 h fun ha hb => pe_ix hr ha hb hs
theorem je_un {op : UnaryOp} {R : V → Hp → VK → Prop} (ho : UnR X (unaryOp op) R) (h : JE X a ρ S (fun d S1 => UnD X.K R d S1 P) B) : JE X (.UnaryOp op a pos) ρ S P B :=
  je_of (pe_un ho pe_w) fun u σ H Q hW hS hE hQ => h u σ H _ hW hS hE fun v1 H1 ⟨u1, d1, S1, A1, hS1, r1, h1⟩ => h1 u1 H1 v1 Q hS1 r1 fun v H' g => hQ v H' (g.after A1)

/-! ### what operations do to data -/
variable {K : PySem.W.Frag} {R : R2}
theorem od_I0 {g : Int → Int → V} {i j : Int} {d : D} (hd : ∀ u H, Rp K u H (g i j) d) (h : P d S) : OpD K (rI0 g) (.int i) (.int j) S P := fun u H v1 v2 Q hS r1 r2 hQ => by
  cases r1; cases r2
  exact ⟨i, j, rfl, rfl, hQ _ H (.here hS (hd u H) h)⟩
theorem od_I {C : Int → Int → Prop} {g : Int → Int → V} {i j : Int} {d : D} (hd : ∀ u H, Rp K u H (g i j) d) (hc : C i j) (h : P d S) : OpD K (rI C g) (.int i) (.int j) S P := fun u H v1 v2 Q hS r1 r2 hQ => by
  cases r1; cases r2
  exact ⟨i, j, rfl, rfl, hc, hQ _ H (.here hS (hd u H) h)⟩
end

/-! ### a new thing -/
section
variable {K : PySem.W.Frag} {u : Mu} {H : Hp} {S : Store} {p : Addr} {o : HO}
theorem StoR.new_off (hS : StoR K u H S) (hp : H p = none) : u.Off p := by
  refine ⟨fun hm => ?_, fun hm => ?_⟩
  · obtain ⟨o, e⟩ := hS.trk p hm
    rw [hp] at e; cases e
  · obtain ⟨⟨o, e⟩, _⟩ := hS.trf p hm
    rw [hp] at e; cases e
theorem adv_new {n : Nat} (hS : StoR K u H S) (hp : H p = none) : Adv n u H u (upd H p o) :=
  ⟨⟨fun _ _ => rfl, fun k a e => .inl (List.mem_of_getElem? e), fun a o' e _ => by rw [upd_ne (ne_of_none e hp)]; exact e, fun a o' e => ⟨o', by rw [upd_ne (ne_of_none e hp)]; exact e⟩, fun _ h => .inl h⟩, rfl, fun a ha => upd_ne (let ⟨o', e⟩ := (hS.trf a ha).1; ne_of_none e hp)⟩
theorem CellR.adv {u' : Mu} {H' : Hp} {a : Addr} {c : Cell} (r : CellR K u H a c) (A : Adv u.m.length u H u' H') (ha : H' a = H a) : CellR K u' H' a c := by
  cases c with
  | lst ds => obtain ⟨vs, e, q⟩ := r; exact ⟨vs, ha.trans e, q.adv (Nat.le_refl _) A.toAdvF⟩
  | dK ds => obtain ⟨vs, e, e2, q⟩ := r; exact ⟨vs, ha.trans e, e2, q.adv (Nat.le_refl _) A.toAdvF⟩
  | dT ds => obtain ⟨vs, e, e2, q⟩ := r; exact ⟨vs, ha.trans e, e2, q.adv (Nat.le_refl _) A.toAdvF⟩
  | gone => trivial
theorem StoR.new (hS : StoR K u H S) (hp : H p = none) : StoR K u (upd H p o) S where
  len := hS.len
  inj := hS.inj
  trk := fun a ha => by
    obtain ⟨o', e⟩ := hS.trk a ha
    exact ⟨o', by rw [upd_ne (ne_of_none e hp)]; exact e⟩
  trf := fun a ha => by
    obtain ⟨⟨o', e⟩, h⟩ := hS.trf a ha
    exact ⟨⟨o', by rw [upd_ne (ne_of_none e hp)]; exact e⟩, h⟩
  sto := fun k c e => by
    rcases hS.sto k c e with h | ⟨a, ha, r⟩
    · exact .inl h
    · refine .inr ⟨a, ha, ?_⟩
      obtain ⟨o', e'⟩ := hS.trk a (List.mem_of_getElem? ha)
      exact r.adv (adv_new hS hp) (upd_ne (ne_of_none e' hp))
theorem good_lst {P : D → Store → Prop} {vs : List V} {ds : List D} (hS : StoR K u H S) (hp : H p = none) (r : RpA K u H vs ds) (h : P (.lst ds) S) : Good K P u H (.ref p) (upd H p (.lst vs)) := by
  exact ⟨u, .lst ds, S, adv_new hS hp, hS.new hp, .lst ⟨upd_same, hS.new_off hp⟩ (r.go (adv_new hS hp)), h⟩
theorem good_tup {P : D → Store → Prop} {vs : List V} {ds : List D} (hS : StoR K u H S) (hp : H p = none) (r : RpA K u H vs ds) (h : P (.tup ds) S) : Good K P u H (.ref p) (upd H p (.tup vs)) := by
  exact ⟨u, .tup ds, S, adv_new hS hp, hS.new hp, .tup (.inl ⟨.inl upd_same, hS.new_off hp⟩) (r.go (adv_new hS hp)), h⟩
/-- a new list that goes into the store -/
def Mu.add (u : Mu) (p : Addr) : Mu := ⟨u.m ++ [some p], u.fr⟩
theorem adv_add (hS : StoR K u H S) (hp : H p = none) : Adv u.m.length u H (u.add p) (upd H p o) :=
  ⟨⟨fun k hk => List.getElem?_append_left hk, fun k a e => by
    have hm : some a ∈ u.m ++ [some p] := List.mem_of_getElem? e
    rcases List.mem_append.mp hm with h | h
    · exact .inl h
    · right
      have : a = p := by simpa using h
      rw [this]; exact hp,
   fun a o' e _ => by rw [upd_ne (ne_of_none e hp)]; exact e, fun a o' e => ⟨o', by rw [upd_ne (ne_of_none e hp)]; exact e⟩, fun _ h => .inl h⟩, rfl, fun a ha => upd_ne (let ⟨o', e⟩ := (hS.trf a ha).1; ne_of_none e hp)⟩
theorem StoR.add_trk (hS : StoR K u H S) (hp : H p = none) : ∀ a, some a ∈ (u.add p).m → ∃ o', (upd H p o) a = some o' := fun a ha => by
  rcases List.mem_append.mp ha with h | h
  · obtain ⟨o', e⟩ := hS.trk a h
    exact ⟨o', by rw [upd_ne (ne_of_none e hp)]; exact e⟩
  · have : a = p := by simpa using h
    exact ⟨o, by rw [this, upd_same]⟩
theorem StoR.add {c : Cell} (hS : StoR K u H S) (hp : H p = none) (hc : CellR K (u.add p) (upd H p o) p c) : StoR K (u.add p) (upd H p o) (S ++ [c]) where
  len := by show (u.m ++ [some p]).length = _; rw [List.length_append, List.length_append, hS.len]; rfl
  inj := fun i j a hi hj => by
    have key : ∀ k : Nat, (u.m ++ [some p])[k]? = some (some a) → (k < u.m.length ∧ u.m[k]? = some (some a)) ∨ (k = u.m.length ∧ a = p) := fun k e => by
      rcases Nat.lt_or_ge k u.m.length with h | h
      · exact .inl ⟨h, by rw [List.getElem?_append_left h] at e; exact e⟩
      · rw [List.getElem?_append_right h] at e
        have h2 : k - u.m.length = 0 := by
          have := (List.getElem?_eq_some_iff.mp e).1
          simp at this; omega
        rw [h2] at e
        have : some p = some a := by simpa using e
        exact .inr ⟨by omega, (Option.some.inj this).symm⟩
    have off := hS.new_off hp
    rcases key i hi with ⟨_, h1⟩ | ⟨h1, e1⟩
    · rcases key j hj with ⟨_, h2⟩ | ⟨h2, e2⟩
      · exact hS.inj i j a h1 h2
      · subst e2; exact absurd (List.mem_of_getElem? h1) off.1
    · rcases key j hj with ⟨_, h2⟩ | ⟨h2, e2⟩
      · subst e1; exact absurd (List.mem_of_getElem? h2) off.1
      · omega
  trk := hS.add_trk hp
  trf := fun a ha => by
    obtain ⟨⟨o', e⟩, h⟩ := hS.trf a ha
    refine ⟨⟨o', by rw [upd_ne (ne_of_none e hp)]; exact e⟩, fun hm => ?_⟩
    rcases List.mem_append.mp hm with h1 | h1
    · exact h h1
    · have : a = p := by simpa using h1
      rw [this, hp] at e; cases e
  sto := fun k c' e => by
    rcases Nat.lt_or_ge k S.length with h | h
    · rw [List.getElem?_append_left h] at e
      rcases hS.sto k c' e with h1 | ⟨a, ha, r⟩
      · exact .inl h1
      · refine .inr ⟨a, ?_, ?_⟩
        · show (u.m ++ [some p])[k]? = _
          rw [List.getElem?_append_left (by rw [hS.len]; exact h)]; exact ha
        · obtain ⟨o', e'⟩ := hS.trk a (List.mem_of_getElem? ha)
          exact r.adv (adv_add hS hp) (upd_ne (ne_of_none e' hp))
    · rw [List.getElem?_append_right h] at e
      have h2 : k - S.length = 0 := by
        have := (List.getElem?_eq_some_iff.mp e).1
        simp at this; omega
      rw [h2] at e
      have : c = c' := by simpa using e
      subst this
      refine .inr ⟨p, ?_, hc⟩
      show (u.m ++ [some p])[k]? = _
      rw [List.getElem?_append_right (by rw [hS.len]; exact h), hS.len, h2]; rfl
theorem good_ptr {P : D → Store → Prop} {vs : List V} {ds : List D} (hS : StoR K u H S) (hp : H p = none) (r : RpA K u H vs ds) (h : P (.ptr S.length) (S ++ [.lst ds])) : Good K P u H (.ref p) (upd H p (.lst vs)) := by
  have hc : CellR K (u.add p) (upd H p (.lst vs)) p (.lst ds) := ⟨vs, upd_same, r.go (adv_add hS hp)⟩
  refine ⟨u.add p, .ptr S.length, S ++ [.lst ds], adv_add hS hp, hS.add hp hc, .ptr ?_, h⟩
  show (u.m ++ [some p])[S.length]? = _
  rw [← hS.len, List.getElem?_append_right (Nat.le_refl _), Nat.sub_self]; rfl
end
end J
namespace J
open PySem PySem.Spec PyProof.Rows L2

section
variable {X : Cx} {a b c e : Expr} {es : List Expr} {ρ : Sl} {S : Store} {P P' : D → Store → Prop} {PL : List D → Store → Prop} {PT : Bool → Store → Prop} {B : Bad} {pos p : Pos} {x : Str}
/-! ### argument lists and displays -/
theorem ja_of {t : TA} (h : PA X es t) (q : ∀ u σ H Q, Wish X B u H → StoR X.K u H S → EnvV X.K u H σ ρ → (∀ v H', (GoodA X.K PL u H v H') → Q v H') → t σ H Q) : JA X es ρ S PL B := fun u σ H Q hW hS hE hQ =>
  wA_of h (q u σ H _ hW hS hE hQ)
theorem ja_nil (h : PL [] S) : JA X [] ρ S PL B := ja_of pa_nil fun u _ H _ _ hS _ hQ => hQ [] H ⟨u, [], S, .refl _ _ _, hS, .nil, h⟩
theorem ja_cons (h : JE X e ρ S (fun d S1 => JA X es ρ S1 (fun ds S2 => PL (d :: ds) S2) B) B) (hs : starEach (e :: es) X.env = (false, eval e X.env) :: starEach es X.env := by rfl) : JA X (e :: es) ρ S PL B :=
  ja_of (pa_cons pe_w pa_w hs) fun u σ H Q hW hS hE hQ => h u σ H _ hW hS hE fun v1 H1 ⟨u1, d1, S1, A1, hS1, r1, h1⟩ =>
    h1 u1 σ H1 _ (hW.after A1) hS1 (hE.adv A1) fun vs H2 ⟨u2, ds, S2, A2, hS2, r2, h2⟩ => hQ (v1 :: vs) H2 ⟨u2, d1 :: ds, S2, A1.tr A2, hS2, .cons (r1.go A2) r2, h2⟩
theorem je_lst (h : JA X es ρ S (fun ds S1 => ds.length ≤ sizeLine ∧ P (.lst ds) S1) B) : JE X (.List es pos) ρ S P B :=
  je_of (pe_lst pa_w) fun u σ H Q hW hS hE hQ => h u σ H _ hW hS hE fun vs H1 ⟨u1, ds, S1, A1, hS1, r1, hl, h1⟩ => ⟨by rw [r1.length]; exact hl, fun q hq => hQ _ _ ((good_lst hS1 hq r1 h1).after A1)⟩
theorem je_lstP (h : JA X es ρ S (fun ds S1 => ds.length ≤ sizeLine ∧ P (.ptr S1.length) (S1 ++ [.lst ds])) B) : JE X (.List es pos) ρ S P B :=
  je_of (pe_lst pa_w) fun u σ H Q hW hS hE hQ => h u σ H _ hW hS hE fun vs H1 ⟨u1, ds, S1, A1, hS1, r1, hl, h1⟩ => ⟨by rw [r1.length]; exact hl, fun q hq => hQ _ _ ((good_ptr hS1 hq r1 h1).after A1)⟩
theorem je_tup {x1} (h : JA X es ρ S (fun ds S1 => ds.length ≤ sizeLine ∧ P (.tup ds) S1) B) : JE X (.Tuple es x1 pos) ρ S P B :=
  je_of (pe_tup pa_w) fun u σ H Q hW hS hE hQ => h u σ H _ hW hS hE fun vs H1 ⟨u1, ds, S1, A1, hS1, r1, hl, h1⟩ => ⟨by rw [r1.length]; exact hl, fun q hq => hQ _ _ ((good_tup hS1 hq r1 h1).after A1)⟩
/-! ### built-ins -/
theorem je_cb {r : List V → Hp → VK → Prop} (h : JA X es ρ S (fun ds S1 => CaD X.K r ds S1 P) B) (hp : PE X e (tCB r (wA X es))) : JE X e ρ S P B :=
  je_of hp fun u σ H Q hW hS hE hQ => h u σ H _ hW hS hE fun vs H1 ⟨u1, ds, S1, A1, hS1, r1, h1⟩ => h1 u1 H1 vs Q hS1 r1 fun v H' g => hQ v H' (g.after A1)
theorem je_callB {id : String} {r : List V → Hp → VK → Prop} (hc : CallR X (.builtin id) r) (hg : Gl X x) (hm : X.mg x = none) (hv : bootBuiltins x = some (.builtin id)) (h : JA X (e :: es) ρ S (fun ds S1 => CaD X.K r ds S1 P) B) (hn : x ≠ "__name__" := by decide) (hdb : (x == ("__debug__" : Str)) = false := by decide)
    (he : starEach (e :: es) X.env = (false, eval e X.env) :: starEach es X.env := by rfl) (hpl : (backTo pos (starEach es X.env)).any (·.1) = false := by rfl) : JE X (.Call (.Name x p) (e :: es) [] pos) ρ S P B :=
  je_cb h (pe_callB hc hg hm hv pa_w hn hdb he hpl)
theorem je_callT {T : String} {r : List V → Hp → VK → Prop} (hc : CallR X (.type T) r) (hg : Gl X x) (hm : X.mg x = none) (hv : bootBuiltins x = some (.type T)) (h : JA X (e :: es) ρ S (fun ds S1 => CaD X.K r ds S1 P) B) (hn : x ≠ "__name__" := by decide) (hdb : (x == ("__debug__" : Str)) = false := by decide)
    (he : starEach (e :: es) X.env = (false, eval e X.env) :: starEach es X.env := by rfl) (hpl : (backTo pos (starEach es X.env)).any (·.1) = false := by rfl) : JE X (.Call (.Name x p) (e :: es) [] pos) ρ S P B :=
  je_cb h (pe_callTy hc hg hm hv pa_w hn hdb he hpl)
/-- a method of a built-in type -/
def TyD (T : String) (d : D) (S : Store) : Prop := ∀ K u H v, StoR K u H S → Rp K u H v d → tyV K T v H
def MtD (K : PySem.W.Frag) (r : V → List V → Hp → VK → Prop) (d : D) (ds : List D) (S : Store) (P : D → Store → Prop) : Prop :=
  ∀ u H v vs Q, StoR K u H S → Rp K u H v d → RpA K u H vs ds → (∀ v H', (Good K P u H v H') → Q v H') → r v vs H Q
theorem je_bm {o : Expr} {name : Str} {apos cpos : Pos} {T id : String} {r : V → List V → Hp → VK → Prop} (pa : PlainAttrs T) (slot : Slot T name id) (hty : typeOf (.builtin id) = pure (.type "method_descriptor")) (hm : MtR X id r)
    (h : JE X o ρ S (fun d S1 => TyD T d S1 ∧ JA X (e :: es) ρ S1 (fun ds S2 => MtD X.K r d ds S2 P) B) B)
    (hbase : attributeBase o name X.env (eval o X.env) = eval o X.env := by rfl)
    (hfew : ((backTo cpos (starEach (e :: es) X.env)).all (fun x => !x.1) && (backToKw cpos (keywordEach [] X.env)).all (fun x => x.1.isSome)
      && decide ((e :: es).length + ([] : List Keyword).length + (if ([] : List Keyword).isEmpty then 0 else 1) < 30)) = true := by rfl)
    (hline : (apos.endLine == cpos.line) = true := by rfl) (hs : starEach (e :: es) X.env = (false, eval e X.env) :: starEach es X.env := by rfl) (hplain : (backTo cpos (starEach es X.env)).any (·.1) = false := by rfl) :
    JE X (.Call (.Attribute o name apos) (e :: es) [] cpos) ρ S P B :=
  je_of (pe_bm pa slot hty hm pe_w pa_w hbase hfew hline hs hplain) fun u σ H Q hW hS hE hQ => h u σ H _ hW hS hE fun v1 H1 ⟨u1, d1, S1, A1, hS1, r1, ty, h1⟩ =>
    ⟨ty _ u1 H1 v1 hS1 r1, h1 u1 σ H1 _ (hW.after A1) hS1 (hE.adv A1) fun vs H2 ⟨u2, ds, S2, A2, hS2, r2, h2⟩ => h2 u2 H2 v1 vs Q hS2 (r1.go A2) r2 fun v H' g => hQ v H' (g.after (A1.tr A2))⟩
theorem je_bm0 {o : Expr} {name : Str} {apos cpos : Pos} {T id : String} {r : V → List V → Hp → VK → Prop} (pa : PlainAttrs T) (slot : Slot T name id) (hty : typeOf (.builtin id) = pure (.type "method_descriptor")) (hm : MtR X id r)
    (h : JE X o ρ S (fun d S1 => TyD T d S1 ∧ MtD X.K r d [] S1 P) B)
    (hbase : attributeBase o name X.env (eval o X.env) = eval o X.env := by rfl) (hline : (apos.endLine == cpos.line) = true := by rfl) :
    JE X (.Call (.Attribute o name apos) [] [] cpos) ρ S P B :=
  je_of (pe_bm0 pa slot hty hm pe_w hbase hline) fun u σ H Q hW hS hE hQ => h u σ H _ hW hS hE fun v1 H1 ⟨u1, d1, S1, A1, hS1, r1, ty, h1⟩ =>
    ⟨ty _ u1 H1 v1 hS1 r1, h1 u1 H1 v1 [] Q hS1 r1 .nil fun v H' g => hQ v H' (g.after A1)⟩
/-! ### tests -/
theorem jt_of {t : TT} (h : L2.PT X a t) (q : ∀ u σ H Q, Wish X B u H → StoR X.K u H S → EnvV X.K u H σ ρ → (∀ v H', (GoodT X.K PT u H v H') → Q v H') → t σ H Q) : JT X a ρ S PT B := fun u σ H Q hW hS hE hQ =>
  wT_of h (q u σ H _ hW hS hE hQ)
abbrev BlP (PT : Bool → Store → Prop) : D → Store → Prop := fun d S => ∃ b, d = .bl b ∧ PT b S
theorem good_bl {K : PySem.W.Frag} {u : Mu} {H H' : Hp} {v : V} (g : Good K (BlP PT) u H v H') : ∃ b, v = .bl b ∧ GoodT K PT u H b H' := by
  obtain ⟨u', d, S', A, hS, r, b, rfl, h⟩ := g
  cases r
  exact ⟨b, rfl, u', S', A, hS, h⟩
theorem jt_val (h : JE X a ρ S (BlP PT) B) (he : ∀ whole, isTrue a X.env whole = (do let v ← whole; standAt a.pos; holding [v] (truthy v)) := by intro _; rfl) : JT X a ρ S PT B :=
  jt_of (pt_val pe_w he) fun u σ H Q hW hS hE hQ => h u σ H _ hW hS hE fun v H' g => by
    obtain ⟨b, rfl, g'⟩ := good_bl g
    exact ⟨b, rfl, hQ b H' g'⟩
theorem GoodT.after {K : PySem.W.Frag} {u u1 : Mu} {H H1 H' : Hp} {v : Bool} (A : Adv u.m.length u H u1 H1) (g : GoodT K PT u1 H1 v H') : GoodT K PT u H v H' := by
  obtain ⟨u', S', A', hS, h⟩ := g
  exact ⟨u', S', A.tr A', hS, h⟩
theorem jt_cmp {op : CmpOp} {R : R2} (ho : OpR X (compareOp op) R) (hm : behindInMarks op b = false) (h : JE X a ρ S (fun d1 S1 => JE X b ρ S1 (fun d2 S2 => OpD X.K R d1 d2 S2 (BlP PT)) B) B) : JT X (.Compare a [op] [b] pos) ρ S PT B :=
  jt_of (pt_cmpR ho pe_w pe_w hm) fun u σ H Q hW hS hE hQ => h u σ H _ hW hS hE fun v1 H1 ⟨u1, d1, S1, A1, hS1, r1, h1⟩ => h1 u1 σ H1 _ (hW.after A1) hS1 (hE.adv A1) fun v2 H2 ⟨u2, d2, S2, A2, hS2, r2, h2⟩ =>
      h2 u2 H2 v1 v2 _ hS2 (r1.go A2) r2 fun v H' g => by
        obtain ⟨b, rfl, g'⟩ := good_bl g
        exact ⟨b, rfl, hQ b H' (g'.after (A1.tr A2))⟩
theorem jt_not (h : JT X a ρ S (fun b S1 => PT (!b) S1) B) : JT X (.UnaryOp .Not a pos) ρ S PT B :=
  jt_of (pt_not pt_w) fun u σ H Q hW hS hE hQ => h u σ H _ hW hS hE fun v H' g => hQ (!v) H' g
/-- and, or: whatever the whole is -/
def wW (X : Cx) (e : Expr) : TT := fun σ H Q => ∀ (whole : Sem Value) pins s, Inv X pins σ H s → wpAny (model X.prog X.w) X.A (isTrue e X.env whole) (TP X pins σ Q) X.xe s
theorem pw_w : PW X e (wW X e) := ⟨fun whole pins s _ _ _ I h => h whole pins s I⟩
def JW (X : Cx) (e : Expr) (ρ : Sl) (S : Store) (P : Bool → Store → Prop) (B : Bad) : Prop :=
  ∀ u σ H Q, Wish X B u H → StoR X.K u H S → EnvV X.K u H σ ρ → (∀ b H', GoodT X.K P u H b H' → Q b H') → wW X e σ H Q
theorem jw_of {t : TT} (h : PW X a t) (q : ∀ u σ H Q, Wish X B u H → StoR X.K u H S → EnvV X.K u H σ ρ → (∀ v H', (GoodT X.K PT u H v H') → Q v H') → t σ H Q) : JW X a ρ S PT B := fun u σ H Q hW hS hE hQ whole pins s I =>
  h.run whole pins s σ H _ I (q u σ H Q hW hS hE hQ)
theorem jt_w (h : JW X e ρ S PT B) : JT X e ρ S PT B := fun u σ H Q hW hS hE hQ pins s I => h u σ H Q hW hS hE hQ _ pins s I
variable {rest : List Expr}
theorem jw_and1 (h : JT X a ρ S PT B) : JW X (.BoolOp .And [a] pos) ρ S PT B := jw_of (pw_and1 pt_w) fun u σ H Q hW hS hE hQ => h u σ H Q hW hS hE fun v H' g => hQ v H' g
theorem jw_or1 (h : JT X a ρ S PT B) : JW X (.BoolOp .Or [a] pos) ρ S PT B := jw_of (pw_or1 pt_w) fun u σ H Q hW hS hE hQ => h u σ H Q hW hS hE fun v H' g => hQ v H' g
theorem jw_and (h : JT X a ρ S (fun k S1 => (k = true → JW X (.BoolOp .And (b :: rest) pos) ρ S1 PT B) ∧ (k = false → PT false S1)) B) : JW X (.BoolOp .And (a :: b :: rest) pos) ρ S PT B :=
  jw_of (pw_and pt_w pw_w) fun u σ H Q hW hS hE hQ => h u σ H _ hW hS hE fun v H' ⟨u1, S1, A1, hS1, h1, h2⟩ => by
    cases v with
    | true => exact iteT (h1 rfl u1 σ H' Q (hW.after A1) hS1 (hE.adv A1) fun b H2 g => hQ b H2 (g.after A1))
    | false => exact iteF (hQ false H' ⟨u1, S1, A1, hS1, h2 rfl⟩)
theorem jw_or (h : JT X a ρ S (fun k S1 => (k = false → JW X (.BoolOp .Or (b :: rest) pos) ρ S1 PT B) ∧ (k = true → PT true S1)) B) : JW X (.BoolOp .Or (a :: b :: rest) pos) ρ S PT B :=
  jw_of (pw_or pt_w pw_w) fun u σ H Q hW hS hE hQ => h u σ H _ hW hS hE fun v H' ⟨u1, S1, A1, hS1, h1, h2⟩ => by
    cases v with
    | false => exact iteF (h1 rfl u1 σ H' Q (hW.after A1) hS1 (hE.adv A1) fun b H2 g => hQ b H2 (g.after A1))
    | true => exact iteT (hQ true H' ⟨u1, S1, A1, hS1, h2 rfl⟩)
theorem jt_chain {op op' : CmpOp} {r r' : R2} (h : JE X (.Compare a [op, op'] [b, c] pos) ρ S (BlP PT) B) (hp : L2.PT X (.Compare a [op, op'] [b, c] pos) (tTest (wE X (.Compare a [op, op'] [b, c] pos)))) : JT X (.Compare a [op, op'] [b, c] pos) ρ S PT B :=
  jt_of hp fun u σ H Q hW hS hE hQ => h u σ H _ hW hS hE fun v H' g => by
    obtain ⟨b, rfl, g'⟩ := good_bl g
    exact ⟨b, rfl, hQ b H' g'⟩
/-! ### values of and, or, not, if -/
theorem je_one {op} (h : JE X a ρ S P B) : JE X (.BoolOp op [a] pos) ρ S P B := je_of (pe_one pe_w) fun u σ H Q hW hS hE hQ => h u σ H Q hW hS hE fun v H' g => hQ v H' g
theorem je_and (h : JE X a ρ S (BlP fun k S1 => (k = true → JE X (.BoolOp .And (b :: rest) pos) ρ S1 P B) ∧ (k = false → P (.bl false) S1)) B) : JE X (.BoolOp .And (a :: b :: rest) pos) ρ S P B :=
  je_of (pe_and pe_w pe_w) fun u σ H Q hW hS hE hQ => h u σ H _ hW hS hE fun v H' g => by
    obtain ⟨k, rfl, u1, S1, A1, hS1, h1, h2⟩ := good_bl g
    refine ⟨k, rfl, ?_⟩
    cases k with
    | true => exact iteT (h1 rfl u1 σ H' Q (hW.after A1) hS1 (hE.adv A1) fun b H2 g => hQ b H2 (g.after A1))
    | false => exact iteF (hQ _ H' ⟨u1, _, S1, A1, hS1, .bl false, h2 rfl⟩)
theorem je_or (h : JE X a ρ S (BlP fun k S1 => (k = false → JE X (.BoolOp .Or (b :: rest) pos) ρ S1 P B) ∧ (k = true → P (.bl true) S1)) B) : JE X (.BoolOp .Or (a :: b :: rest) pos) ρ S P B :=
  je_of (pe_or pe_w pe_w) fun u σ H Q hW hS hE hQ => h u σ H _ hW hS hE fun v H' g => by
    obtain ⟨k, rfl, u1, S1, A1, hS1, h1, h2⟩ := good_bl g
    refine ⟨k, rfl, ?_⟩
    cases k with
    | false => exact iteF (h1 rfl u1 σ H' Q (hW.after A1) hS1 (hE.adv A1) fun b H2 g => hQ b H2 (g.after A1))
    | true => exact iteT (hQ _ H' ⟨u1, _, S1, A1, hS1, .bl true, h2 rfl⟩)
theorem je_not (h : JE X a ρ S (BlP fun k S1 => P (.bl (!k)) S1) B) : JE X (.UnaryOp .Not a pos) ρ S P B :=
  je_of (pe_not pe_w) fun u σ H Q hW hS hE hQ => h u σ H _ hW hS hE fun v H' g => by
    obtain ⟨k, rfl, u1, S1, A1, hS1, h1⟩ := good_bl g
    exact ⟨k, rfl, hQ _ H' ⟨u1, _, S1, A1, hS1, .bl _, h1⟩⟩
theorem je_if (h : JT X c ρ S (fun k S1 => (k = true → JE X a ρ S1 P B) ∧ (k = false → JE X b ρ S1 P B)) B) : JE X (.IfExp c a b pos) ρ S P B :=
  je_of (pe_ifExp pt_w pe_w pe_w) fun u σ H Q hW hS hE hQ => h u σ H _ hW hS hE fun v H' ⟨u1, S1, A1, hS1, h1, h2⟩ => by
    cases v with
    | true => exact iteT (h1 rfl u1 σ H' Q (hW.after A1) hS1 (hE.adv A1) fun b H2 g => hQ b H2 (g.after A1))
    | false => exact iteF (h2 rfl u1 σ H' Q (hW.after A1) hS1 (hE.adv A1) fun b H2 g => hQ b H2 (g.after A1))
end
end J
namespace J
open PySem PySem.Spec PyProof.Rows L2

/-! ### defs -/
/-- a def keeps a promise wherever no repr runs -/
structure FnG (P : Program) (w : World) (K : PySem.W.Frag) (mg : Str → Option Value) (base : Heap) (k : Nat) (f : Addr) (fd : FuncData) (ps : List Str) (sp : Sp) : Prop where
  len : ∀ vs H Q E, sp vs H Q E → vs.length = ps.length
  run : ∀ A outer s H args us vs Q E, Room k A → A.guards = some [] → Env0 P w K mg base A outer s H → BindsTo s fd args (ps.zip us) → Vals vs us → sp vs H Q E →
    codeAny (model P w) A (.call (.ref f) args) (CR (L2.CX P w) outer P w H s Q E) s
theorem FnG.mono {P : Program} {w : World} {K : PySem.W.Frag} {mg : Str → Option Value} {base : Heap} {j k : Nat} {f : Addr} {fd : FuncData} {ps : List Str} {sp : Sp} (F : FnG P w K mg base j f fd ps sp) (h : j ≤ k) : FnG P w K mg base k f fd ps sp :=
  ⟨F.len, fun A outer s H args us vs Q E hr => F.run A outer s H args us vs Q E (hr.mono h)⟩
abbrev DSpec := List D → Store → (D → Store → Prop) → Bad → Prop
def spD (K : PySem.W.Frag) (n : Nat) (sp : DSpec) : Sp := fun vs H Q E => ∃ u ds S PP EE, StoR K u H S ∧ RpA K u H vs ds ∧ ds.length = n ∧ sp ds S PP EE ∧
  (∀ v H', Good K PP u H v H' → Q v H') ∧ ∀ cls dx H', GoodX K EE u H cls dx H' → E cls dx H'
/-- a def of the module, by its name -/
structure GF (P : Program) (w : World) (K : PySem.W.Frag) (mg : Str → Option Value) (base : Heap) (k : Nat) (x : Str) (ps : List Str) (sp : DSpec) : Prop where
  ex : ∃ f fd, FnG P w K mg base k f fd ps (spD K ps.length sp) ∧ mg x = some (.ref f) ∧ PySem.W.keepIn K (.ref f) = true ∧ Binds K fd ps [] ∧ ∃ oc od osl, K.lookup f = some ⟨oc, od, .func fd, osl⟩
theorem GF.mono {P : Program} {w : World} {K : PySem.W.Frag} {mg : Str → Option Value} {base : Heap} {j k : Nat} {x : Str} {ps : List Str} {sp : DSpec} (F : GF P w K mg base j x ps sp) (h : j ≤ k) : GF P w K mg base k x ps sp := by
  obtain ⟨f, fd, h1, h2⟩ := F.ex
  exact ⟨f, fd, h1.mono h, h2⟩
theorem GF.imp {P : Program} {w : World} {K : PySem.W.Frag} {mg : Str → Option Value} {base : Heap} {k : Nat} {x : Str} {ps : List Str} {sp sp' : DSpec} (F : GF P w K mg base k x ps sp) (h : ∀ ds S P B, ds.length = ps.length → sp' ds S P B → sp ds S P B) : GF P w K mg base k x ps sp' := by
  obtain ⟨f, fd, h1, h2⟩ := F.ex
  have im : ∀ vs H Q E, spD K ps.length sp' vs H Q E → spD K ps.length sp vs H Q E := fun vs H Q E ⟨u, ds, S, PP, EE, a1, a3, a4, a5, a6⟩ => ⟨u, ds, S, PP, EE, a1, a3, a4, h _ _ _ _ a4 a5, a6⟩
  exact ⟨f, fd, ⟨fun vs H Q E q => h1.len vs H Q E (im _ _ _ _ q), fun A outer s H args us vs Q E r g e b v q => h1.run A outer s H args us vs Q E r g e b v (im _ _ _ _ q)⟩, h2⟩

section
variable {X : Cx} {k : Nat} {f : Addr} {fd : FuncData} {ps : List Str} {sp : Sp} {dvs : List V} {ds : List Value} {E : XK} {x : Str} {p pos : Pos} {e : Expr} {es : List Expr} {t : TA}
theorem back_of {pins : List (Addr × Obj)} {σ : L2.St} {H : Hp} {s s' : Shared} {Q : VK} {r : Result} (I : Inv X pins σ H s) (hx : Passes (L2.CX X.prog X.w) X E) (hq : CR (L2.CX X.prog X.w) X.stack X.prog X.w H s Q E r s') :
    callEnd (EP X pins σ Q) X.xe r s' := by
  cases r with
  | error ex => exact hx pins σ H s ex s' I hq
  | ok fl => cases fl with
    | ret v => exact I.after hq
    | next => exact absurd hq id
    | brk => exact absurd hq id
    | cont => exact absurd hq id
theorem runG {pins : List (Addr × Obj)} {σ : L2.St} {H : Hp} {s : Shared} {Q : VK} {zs : List Value} {vs : List V} {args : Args} (F : FnG X.prog X.w X.K X.mg X.base k f fd ps sp) (hr : Room k X.A) (hgd : X.A.guards = some []) (hx : Passes (L2.CX X.prog X.w) X E)
    (hb : zs.length = ps.length → BindsTo s fd args (ps.zip zs)) (I : Inv X pins σ H s) (r : Vals vs zs) (h : sp vs H Q E) : codeAny (model X.prog X.w) X.A (.call (.ref f) args) (callEnd (EP X pins σ Q) X.xe) s :=
  codeAny_mono (F.run X.A X.stack s H args zs vs Q E hr hgd I.env0 (hb (r.length.symm.trans (F.len _ _ _ _ h))) r h) fun _ _ hq => back_of I hx hq
theorem pe_callG (F : FnG X.prog X.w X.K X.mg X.base k f fd ps sp) (hr : Room k X.A) (hgd : X.A.guards = some []) (hg : Gl X x) (hm : X.mg x = some (.ref f)) (hk : PySem.W.keepIn X.K (.ref f) = true) (hb : Binds X.K fd ps []) (hx : Passes (L2.CX X.prog X.w) X E)
    (ha : PA X (e :: es) t) (hdb : (x == ("__debug__" : Str)) = false) (he : starEach (e :: es) X.env = (false, eval e X.env) :: starEach es X.env) (hpl : (backTo pos (starEach es X.env)).any (·.1) = false) :
    PE X (.Call (.Name x p) (e :: es) [] pos) (fun σ H Q => t σ H fun vs H1 => sp vs H1 Q E) := ⟨fun pins s σ H Q I h => by
  refine wpAny_Call_Name_kw (ld_glob I hg hm (PySem.W.callWith_K (h₀ := X.base) I.ok.mod.kin hk ?_ he hpl) hdb)
  refine thn (ha.run pos pins s σ H _ I h) fun us s1 hh => ?_
  obtain ⟨vs, H1, I1, r, q⟩ := hh
  refine ⟨I1.kIn, wpAny_call (runG F hr hgd hx (fun hl => ?_) I1 r q)⟩
  have hb1 := hb s1 us I1.kIn (by rw [List.append_nil]; exact hl)
  rw [List.append_nil] at hb1
  exact hb1⟩
theorem pe_callG0 (F : FnG X.prog X.w X.K X.mg X.base k f fd ps sp) (hr : Room k X.A) (hgd : X.A.guards = some []) (hg : Gl X x) (hm : X.mg x = some (.ref f)) (hk : PySem.W.keepIn X.K (.ref f) = true) (hb : Binds X.K fd ps []) (hx : Passes (L2.CX X.prog X.w) X E)
    (hdb : (x == ("__debug__" : Str)) = false) : PE X (.Call (.Name x p) [] [] pos) (fun σ H Q => sp [] H Q E) := ⟨fun pins s σ H Q I h => by
  refine wpAny_Call_Name_kw (ld_glob I hg hm (PySem.W.callWith_K0 I.kIn hk (wpAny_call (runG (zs := []) F hr hgd hx (fun hl => ?_) I .nil h))) hdb)
  exact hb s [] I.kIn hl⟩
/-- a call by names alone: ks the names as they are written, ix the places of the parameters among them -/
def KwB (K : PySem.W.Frag) (fd : FuncData) (ps ks : List Str) (ix : List Nat) : Prop := ∀ (s : Shared) (ws : List Value), K.In s.heap → ws.length = ks.length → BindsTo s fd ⟨[], ks.zip ws⟩ (ps.zip (ix.map fun i => ws.getD i .none))
theorem Vals.pick {zs : List V} {ws : List Value} (r : Vals zs ws) : ∀ ix : List Nat, (∀ i ∈ ix, i < zs.length) → Vals (ix.map fun i => zs.getD i .non) (ix.map fun i => ws.getD i .none)
  | [], _ => .nil
  | i :: ix, h => by
    refine .cons ?_ (Vals.pick r ix fun j hj => h j (List.mem_cons_of_mem _ hj))
    have hi := h i List.mem_cons_self
    obtain ⟨w, h1, h2⟩ := Vals.get r (List.getElem?_eq_getElem hi)
    show RelV (zs.getD i .non) (ws.getD i .none)
    rw [List.getD_eq_getElem?_getD, List.getD_eq_getElem?_getD, h1, List.getElem?_eq_getElem hi]
    exact h2
def wKw (X : Cx) (kws : List Keyword) : TA := fun σ H Q => ∀ pos pins s, Inv X pins σ H s → wpAny (model X.prog X.w) X.A (evalAll ((backToKw pos (keywordEach kws X.env)).map (·.2))) (AP X pins σ Q) X.xe s
theorem pe_callKG {kws : List Keyword} {ks : List Str} {ix : List Nat} (F : FnG X.prog X.w X.K X.mg X.base k f fd ps sp) (hr : Room k X.A) (hgd : X.A.guards = some []) (hg : Gl X x) (hm : X.mg x = some (.ref f)) (hk : PySem.W.keepIn X.K (.ref f) = true) (hb : KwB X.K fd ps ks ix) (hx : Passes (L2.CX X.prog X.w) X E)
    (hall : (backToKw pos (keywordEach kws X.env)).all (·.1.isSome) = true) (hks : (backToKw pos (keywordEach kws X.env)).filterMap (·.1) = ks) (hpl : ((backTo pos (starEach [] X.env)).any (·.1) || (backToKw pos (keywordEach kws X.env)).any (·.1.isNone)) = false)
    (hdb : (x == ("__debug__" : Str)) = false) : PE X (.Call (.Name x p) [] kws pos) (fun σ H Q => wKw X kws σ H fun zs H1 => zs.length = ks.length ∧ (∀ i ∈ ix, i < zs.length) ∧ sp (ix.map fun i => zs.getD i .non) H1 Q E) := ⟨fun pins s σ H Q I h => by
  refine wpAny_Call_Name_kw (ld_glob I hg hm (PySem.W.callWith_KW0 (h₀ := X.base) I.ok.mod.kin hk hall ?_ hpl) hdb)
  refine thn (h pos pins s I) fun ws s1 hh => ?_
  obtain ⟨zs, H1, I1, r, hl, hi, q⟩ := hh
  refine ⟨I1.kIn, wpAny_call ?_⟩
  rw [hks]
  exact runG F hr hgd hx (fun _ => hb s1 ws I1.kIn (r.length.symm.trans hl)) I1 (Vals.pick r ix hi) q⟩
end

section
variable {X : Cx} {a b c e : Expr} {es : List Expr} {ρ : Sl} {S : Store} {P P' : D → Store → Prop} {PL : List D → Store → Prop} {PT : Bool → Store → Prop} {B : Bad} {pos p : Pos} {x : Str} {k : Nat} {ps : List Str} {sp : DSpec}
theorem Wish.pass {u : Mu} {H : Hp} (hW : Wish X B u H) : Passes (L2.CX X.prog X.w) X (fun cls dx H' => GoodX X.K B u H cls dx H') := by
  obtain ⟨W, t, h⟩ := hW
  exact passes_call t fun cls d σ' H' q => h cls d σ' H' q
theorem je_call (G : GF X.prog X.w X.K X.mg X.base k x ps sp) (hr : Room k X.A) (hgd : X.A.guards = some []) (hg : Gl X x) (h : JA X (e :: es) ρ S (fun ds S1 => ds.length = ps.length ∧ sp ds S1 P B) B) (hdb : (x == ("__debug__" : Str)) = false := by decide)
    (he : starEach (e :: es) X.env = (false, eval e X.env) :: starEach es X.env := by rfl) (hpl : (backTo pos (starEach es X.env)).any (·.1) = false := by rfl) : JE X (.Call (.Name x p) (e :: es) [] pos) ρ S P B := fun u σ H Q hW hS hE hQ => by
  obtain ⟨f, fd, F, hm, hk, hb, _⟩ := G.ex
  refine wE_of (pe_callG F hr hgd hg hm hk hb hW.pass pa_w hdb he hpl) ?_
  refine h u σ H _ hW hS hE fun vs H1 hh => ?_
  obtain ⟨u1, ds, S1, A1, hS1, r1, hl, h1⟩ := hh
  exact ⟨u1, ds, S1, P, B, hS1, r1, hl, h1, fun v H' g => hQ v H' (g.after A1), fun cls dx H' g => g.after A1⟩
theorem je_call0 (G : GF X.prog X.w X.K X.mg X.base k x [] sp) (hr : Room k X.A) (hgd : X.A.guards = some []) (hg : Gl X x) (h : sp [] S P B) (hdb : (x == ("__debug__" : Str)) = false := by decide) : JE X (.Call (.Name x p) [] [] pos) ρ S P B := fun u σ H Q hW hS hE hQ => by
  obtain ⟨f, fd, F, hm, hk, hb, _⟩ := G.ex
  refine wE_of (pe_callG0 F hr hgd hg hm hk hb hW.pass hdb) ?_
  exact ⟨u, [], S, P, B, hS, .nil, rfl, h, fun v H' g => hQ v H' g, fun cls dx H' g => g⟩
end

/-! ### statements -/
inductive Out where
  | nx (ρ : Sl) (S : Store) | rt (d : D) (S : Store) | bk (ρ : Sl) (S : Store) | ct (ρ : Sl) (S : Store)
def GoodE (K : PySem.W.Frag) (n : Nat) (P : Sl → Store → Prop) (u : Mu) (H : Hp) (σ' : L2.St) (H' : Hp) : Prop :=
  ∃ u' ρ' S', Adv n u H u' H' ∧ StoR K u' H' S' ∧ EnvV K u' H' σ' ρ' ∧ n ≤ S'.length ∧ P ρ' S'
def GoodR (K : PySem.W.Frag) (n : Nat) (P : D → Store → Prop) (u : Mu) (H : Hp) (v : V) (H' : Hp) : Prop :=
  ∃ u' d S', Adv n u H u' H' ∧ StoR K u' H' S' ∧ Rp K u' H' v d ∧ n ≤ S'.length ∧ P d S'
def GoodXn (K : PySem.W.Frag) (n : Nat) (B : Bad) (u : Mu) (H : Hp) (cls : Value) (dx : Option Addr) (H' : Hp) : Prop :=
  ∃ u' fs S', Adv n u H u' H' ∧ StoR K u' H' S' ∧ XdR K u' H' fs dx ∧ n ≤ S'.length ∧ B cls fs S'
def WishN (X : Cx) (n : Nat) (B : Bad) (u : Mu) (H : Hp) : Prop := ∃ W : WX, Takes X W ∧ ∀ cls dx σ' H', GoodXn X.K n B u H cls dx H' → W cls dx σ' H'
structure Post (K : PySem.W.Frag) (n : Nat) (P : Out → Prop) (u : Mu) (H : Hp) (Dd : Ends) : Prop where
  nx : ∀ σ' H', GoodE K n (fun ρ' S' => P (.nx ρ' S')) u H σ' H' → Dd.nx σ' H'
  rt : ∀ v H', GoodR K n (fun d S' => P (.rt d S')) u H v H' → Dd.rt v H'
  bk : ∀ σ' H', GoodE K n (fun ρ' S' => P (.bk ρ' S')) u H σ' H' → Dd.bk σ' H'
  ct : ∀ σ' H', GoodE K n (fun ρ' S' => P (.ct ρ' S')) u H σ' H' → Dd.ct σ' H'
def JSs (n : Nat) (X : Cx) (sts : List Stmt) (ρ : Sl) (S : Store) (P : Out → Prop) (B : Bad) : Prop :=
  ∀ u σ H Dd, n ≤ S.length → WishN X n B u H → StoR X.K u H S → EnvV X.K u H σ ρ → Post X.K n P u H Dd → wSs X sts Dd σ H
def JS (n : Nat) (X : Cx) (st : Stmt) (ρ : Sl) (S : Store) (P : Out → Prop) (B : Bad) : Prop :=
  ∀ u σ H Dd, n ≤ S.length → WishN X n B u H → StoR X.K u H S → EnvV X.K u H σ ρ → Post X.K n P u H Dd → wS X st Dd σ H

section
variable {K : PySem.W.Frag} {X : Cx} {n : Nat} {u u1 : Mu} {H H1 H' : Hp} {B : Bad} {S : Store} {ρ : Sl} {P P' : Out → Prop}
theorem StoR.le (hS : StoR K u H S) (h : n ≤ S.length) : n ≤ u.m.length := by rw [hS.len]; exact h
theorem WishN.wish (w : WishN X n B u H) (h : n ≤ u.m.length) : Wish X B u H := by
  obtain ⟨W, t, q⟩ := w
  refine ⟨W, t, fun cls dx σ' H' g => q cls dx σ' H' ?_⟩
  obtain ⟨u', fs, S', A, hS, r, b⟩ := g
  exact ⟨u', fs, S', A.weak h, hS, r, hS.len ▸ Nat.le_trans h A.len, b⟩
theorem WishN.after (w : WishN X n B u H) (A : Adv n u H u1 H1) : WishN X n B u1 H1 := by
  obtain ⟨W, t, q⟩ := w
  refine ⟨W, t, fun cls dx σ' H' g => q cls dx σ' H' ?_⟩
  obtain ⟨u', fs, S', A', hS, r, hn, b⟩ := g
  exact ⟨u', fs, S', A.trans A' (Nat.le_refl _), hS, r, hn, b⟩
theorem GoodE.after {Pe : Sl → Store → Prop} {σ' : L2.St} (A : Adv n u H u1 H1) (g : GoodE K n Pe u1 H1 σ' H') : GoodE K n Pe u H σ' H' := by
  obtain ⟨u', ρ', S', A', hS, r, b⟩ := g
  exact ⟨u', ρ', S', A.trans A' (Nat.le_refl _), hS, r, b⟩
theorem GoodR.after {Pe : D → Store → Prop} {v : V} (A : Adv n u H u1 H1) (g : GoodR K n Pe u1 H1 v H') : GoodR K n Pe u H v H' := by
  obtain ⟨u', ρ', S', A', hS, r, b⟩ := g
  exact ⟨u', ρ', S', A.trans A' (Nat.le_refl _), hS, r, b⟩
theorem Post.after {Dd : Ends} (p : Post K n P u H Dd) (A : Adv n u H u1 H1) : Post K n P u1 H1 Dd :=
  ⟨fun σ' H' g => p.nx σ' H' (g.after A), fun v H' g => p.rt v H' (g.after A), fun σ' H' g => p.bk σ' H' (g.after A), fun σ' H' g => p.ct σ' H' (g.after A)⟩
theorem jss_of {sts : List Stmt} {t : TS} (h : PSs X sts t) (q : ∀ u σ H Dd, n ≤ S.length → WishN X n B u H → StoR X.K u H S → EnvV X.K u H σ ρ → Post X.K n P u H Dd → t Dd σ H) : JSs n X sts ρ S P B := fun u σ H Dd hn hW hS hE hP =>
  wSs_of h (q u σ H Dd hn hW hS hE hP)
theorem js_of {st : Stmt} {t : TS} (h : PS X st t) (q : ∀ u σ H Dd, n ≤ S.length → WishN X n B u H → StoR X.K u H S → EnvV X.K u H σ ρ → Post X.K n P u H Dd → t Dd σ H) : JS n X st ρ S P B := fun u σ H Dd hn hW hS hE hP =>
  wS_of h (q u σ H Dd hn hW hS hE hP)
theorem JSs.mono {sts : List Stmt} (h : JSs n X sts ρ S P B) (hp : ∀ o, P o → P' o) : JSs n X sts ρ S P' B := fun u σ H Dd hn hW hS hE hP => h u σ H Dd hn hW hS hE
  ⟨fun σ' H' ⟨u', ρ', S', a1, a2, a3, a4, a5⟩ => hP.nx σ' H' ⟨u', ρ', S', a1, a2, a3, a4, hp _ a5⟩, fun σ' H' ⟨u', ρ', S', a1, a2, a3, a4, a5⟩ => hP.rt σ' H' ⟨u', ρ', S', a1, a2, a3, a4, hp _ a5⟩,
   fun σ' H' ⟨u', ρ', S', a1, a2, a3, a4, a5⟩ => hP.bk σ' H' ⟨u', ρ', S', a1, a2, a3, a4, hp _ a5⟩, fun σ' H' ⟨u', ρ', S', a1, a2, a3, a4, a5⟩ => hP.ct σ' H' ⟨u', ρ', S', a1, a2, a3, a4, hp _ a5⟩⟩
/-- what comes behind a statement -/
def Then (n : Nat) (X : Cx) (rest : List Stmt) (P : Out → Prop) (B : Bad) : Out → Prop
  | .nx ρ S => JSs n X rest ρ S P B
  | o => P o
theorem jss_nil (h : P (.nx ρ S)) : JSs n X [] ρ S P B := jss_of pss_nil fun u σ H Dd hn hW hS hE hP => hP.nx σ H ⟨u, ρ, S, .refl _ _ _, hS, hE, hn, h⟩
theorem then_post {rest : List Stmt} {Dd : Ends} (hn : n ≤ S.length) (hW : WishN X n B u H) (hP : Post X.K n P u H Dd) : Post X.K n (Then n X rest P B) u H { Dd with nx := wSs X rest Dd } :=
  ⟨fun σ' H' ⟨u', ρ', S', a1, a2, a3, a4, a5⟩ => a5 u' σ' H' Dd a4 (hW.after a1) a2 a3 (hP.after a1), fun v H' g => hP.rt v H' g, fun v H' g => hP.bk v H' g, fun v H' g => hP.ct v H' g⟩
theorem jss_cons {st : Stmt} {rest : List Stmt} (h : JS n X st ρ S (Then n X rest P B) B) : JSs n X (st :: rest) ρ S P B := fun u σ H Dd hn hW hS hE hP =>
  wSs_of (pss_cons ps_w pss_w) (h u σ H _ hn hW hS hE (then_post hn hW hP))
theorem jss_one {st : Stmt} (h : JS n X st ρ S P B) : JSs n X [st] ρ S P B := fun u σ H Dd hn hW hS hE hP => wSs_of (pss_one ps_w) (h u σ H _ hn hW hS hE hP)
end
end J
namespace J
open PySem PySem.Spec PyProof.Rows L2

section
variable {K : PySem.W.Frag} {u u' : Mu} {H H' : Hp} {S S' : Store} {σ : L2.St} {ρ ρ' : Sl} {v : V} {d : D}
theorem EnvV.set {i : Nat} (E : EnvV K u H σ ρ) (r : Rp K u H v d) : EnvV K u H (σ.set i (some v)) (ρ.set i (some d)) := by
  refine ⟨by rw [List.length_set, List.length_set]; exact E.len, fun j d' e => ?_⟩
  by_cases hj : i = j
  · subst hj
    have hi : i < ρ.length := by
      have := (List.getElem?_eq_some_iff.mp e).1
      rwa [List.length_set] at this
    rw [List.getElem?_set_self hi] at e
    cases e
    exact ⟨v, List.getElem?_set_self (Nat.lt_of_lt_of_le hi E.len), r⟩
  · rw [List.getElem?_set_ne hj] at e
    obtain ⟨v', h1, h2⟩ := E.get j d' e
    exact ⟨v', by rw [List.getElem?_set_ne hj]; exact h1, h2⟩
theorem EnvV.weak (E : EnvV K u H σ ρ) (hl : ρ'.length ≤ σ.length) (h : ∀ (i : Nat) d, ρ'[i]? = some (some d) → ρ[i]? = some (some d)) : EnvV K u H σ ρ' := ⟨hl, fun i d e => E.get i d (h i d e)⟩
end

/-! ### plain statements -/
section
variable {X : Cx} {n : Nat} {S : Store} {ρ : Sl} {P : Out → Prop} {B : Bad} {e c : Expr} {pos pos' : Pos} {a b : List Stmt}
theorem GoodE.of {K : PySem.W.Frag} {u u1 : Mu} {H H1 : Hp} {S1 : Store} {σ' : L2.St} {ρ' : Sl} {Pe : Sl → Store → Prop} (hn : n ≤ S.length) (hS : StoR K u H S) (A : Adv u.m.length u H u1 H1) (hS1 : StoR K u1 H1 S1) (hE : EnvV K u1 H1 σ' ρ') (h : Pe ρ' S1) : GoodE K n Pe u H σ' H1 :=
  ⟨u1, ρ', S1, A.weak (hS.le hn), hS1, hE, by rw [← hS1.len]; exact Nat.le_trans (hS.le hn) A.len, h⟩
theorem js_expr (h : JE X e ρ S (fun _ S1 => P (.nx ρ S1)) B) (hs : swapsWith e none pos.line X.env = pure false := by rfl) : JS n X (.Expr e pos) ρ S P B :=
  js_of (ps_expr pe_w hs) fun u σ H Dd hn hW hS hE hP => h u σ H _ (hW.wish (hS.le hn)) hS hE fun v H1 ⟨u1, d1, S1, A1, hS1, r1, h1⟩ => hP.nx σ H1 (GoodE.of hn hS A1 hS1 (hE.adv A1) h1)
theorem js_ret (h : JE X e ρ S (fun d S1 => P (.rt d S1)) B) : JS n X (.Return (some e) pos) ρ S P B :=
  js_of (ps_ret pe_w) fun u σ H Dd hn hW hS hE hP => h u σ H _ (hW.wish (hS.le hn)) hS hE fun v H1 ⟨u1, d1, S1, A1, hS1, r1, h1⟩ =>
    hP.rt v H1 ⟨u1, d1, S1, A1.weak (hS.le hn), hS1, r1, by rw [← hS1.len]; exact Nat.le_trans (hS.le hn) A1.len, h1⟩
theorem js_retN (h : P (.rt .non S)) : JS n X (.Return none pos) ρ S P B :=
  js_of ps_retN fun u σ H Dd hn hW hS hE hP => hP.rt .non H ⟨u, .non, S, .refl _ _ _, hS, .non, hn, h⟩
theorem js_pass (h : P (.nx ρ S)) : JS n X (.Pass pos) ρ S P B := js_of ps_pass fun u σ H Dd hn hW hS hE hP => hP.nx σ H ⟨u, ρ, S, .refl _ _ _, hS, hE, hn, h⟩
theorem js_break (h : P (.bk ρ S)) : JS n X (.Break pos) ρ S P B := js_of ps_break fun u σ H Dd hn hW hS hE hP => hP.bk σ H ⟨u, ρ, S, .refl _ _ _, hS, hE, hn, h⟩
theorem js_cont (h : P (.ct ρ S)) : JS n X (.Continue pos) ρ S P B := js_of ps_continue fun u σ H Dd hn hW hS hE hP => hP.ct σ H ⟨u, ρ, S, .refl _ _ _, hS, hE, hn, h⟩
theorem js_if (h : JT X c ρ S (fun k S1 => (k = true → JSs n X a ρ S1 P B) ∧ (k = false → JSs n X b ρ S1 P B)) B) : JS n X (.If c a b pos) ρ S P B :=
  js_of (ps_if pt_w pss_w pss_w) fun u σ H Dd hn hW hS hE hP => h u σ H _ (hW.wish (hS.le hn)) hS hE fun k H1 ⟨u1, S1, A1, hS1, h1, h2⟩ => by
    have A1' := A1.weak (hS.le hn)
    have hn1 : n ≤ S1.length := by rw [← hS1.len]; exact Nat.le_trans (hS.le hn) A1.len
    cases k with
    | true => exact iteT (h1 rfl u1 σ H1 Dd hn1 (hW.after A1') hS1 (hE.adv A1) (hP.after A1'))
    | false => exact iteF (h2 rfl u1 σ H1 Dd hn1 (hW.after A1') hS1 (hE.adv A1) (hP.after A1'))
theorem js_set {i : Nat} {x : Str} (hN : X.N.Nodup) (hi : X.N[i]? = some x) (hx : Loc X.env.scope x) (h : JE X e ρ S (fun d S1 => P (.nx (ρ.set i (some d)) S1)) B) (hs : swapsWith e (some (.Name x pos')) pos.line X.env = pure false := by rfl)
    (hf : X.fn x = true ∨ X.env.scope.names.lookup x = some .local := by first | exact .inl rfl | exact .inr rfl | assumption) : JS n X (.Assign [.Name x pos'] e pos) ρ S P B :=
  js_of (ps_set hN hi hx pe_w hs hf) fun u σ H Dd hn hW hS hE hP => h u σ H _ (hW.wish (hS.le hn)) hS hE fun v H1 ⟨u1, d1, S1, A1, hS1, r1, h1⟩ => hP.nx _ H1 (GoodE.of hn hS A1 hS1 ((hE.adv A1).set r1) h1)
end

/-! ### targets -/
inductive Tg where
  | nm (i : Nat) | tp (ix : List Nat)
def setTs : List Nat → List D → Sl → Sl
  | i :: ix, d :: ds, ρ => setTs ix ds (ρ.set i (some d))
  | _, _, ρ => ρ
def Tg.set : Tg → D → Sl → Option Sl
  | .nm i, d, ρ => some (ρ.set i (some d))
  | .tp ix, .tup ds, ρ => if ds.length = ix.length then some (setTs ix ds ρ) else none
  | .tp _, _, _ => none
def Tg.ixs : Tg → List Nat
  | .nm i => [i]
  | .tp ix => ix
def gNs : List Nat → TGs
  | [] => gNil
  | i :: ix => gCons (gName i) (gNs ix)
def Tg.g (K : PySem.W.Frag) : Tg → TG
  | .nm i => gName i
  | .tp ix => gTup K ix.length (gNs ix)
theorem wipe_set {i : Nat} {x : Option V} : ∀ {vs : List Nat} {σ : L2.St}, i ∈ vs → wipe (σ.set i x) vs = wipe σ vs
  | [], _, h => by cases h
  | w :: ws, σ, h => by
    show (wipe (σ.set i x) ws).set w none = (wipe σ ws).set w none
    by_cases hm : i ∈ ws
    · rw [wipe_set hm]
    · have hw : w = i := by
        rcases List.mem_cons.mp h with h1 | h1
        · exact h1.symm
        · exact absurd h1 hm
      subst hw
      apply List.ext_getElem?
      intro j
      by_cases hj : w = j
      · subst hj
        rw [List.getElem?_set, List.getElem?_set, wipe_length, wipe_length, List.length_set, if_pos rfl, if_pos rfl]
      · rw [List.getElem?_set_ne hj, List.getElem?_set_ne hj]
        by_cases hjw : j ∈ ws
        · have key : ∀ (σ : L2.St), (wipe σ ws)[j]? = if j < σ.length then some none else none := fun σ => by
            have e1 : ¬ ∃ x, (wipe σ ws)[j]? = some (some x) := fun ⟨x, e⟩ => (wipe_some e).2 hjw
            by_cases hl : j < σ.length
            · rw [if_pos hl]
              cases q : (wipe σ ws)[j]? with
              | none => rw [List.getElem?_eq_none_iff, wipe_length] at q; omega
              | some o => cases o with
                | none => rfl
                | some x => exact absurd ⟨x, q⟩ e1
            · rw [if_neg hl, List.getElem?_eq_none_iff, wipe_length]; omega
          rw [key, key, List.length_set]
        · rw [wipe_out hjw, wipe_out hjw, List.getElem?_set_ne hj]
theorem gNs_ok {K : PySem.W.Frag} {u : Mu} {H : Hp} {Q : L2.St → Hp → Prop} : ∀ {ix : List Nat} {vs : List V} {ds : List D} {σ : L2.St} {ρ : Sl}, ds.length = ix.length → RpA K u H vs ds → EnvV K u H σ ρ →
    (∀ σ', EnvV K u H σ' (setTs ix ds ρ) → (∀ ws, (∀ i ∈ ix, i ∈ ws) → wipe σ' ws = wipe σ ws) → Q σ' H) → gNs ix vs σ H Q
  | [], _, _, σ, ρ, hl, r, hE, h => by
    cases r with
    | nil => exact ⟨rfl, h σ hE fun _ _ => rfl⟩
    | cons _ _ => simp at hl
  | i :: ix, _, _, σ, ρ, hl, r, hE, h => by
    cases r with
    | nil => simp at hl
    | cons r t =>
      refine ⟨_, _, rfl, gNs_ok (by simpa using hl) t (hE.set r) fun σ' hE' hw => h σ' hE' fun ws hm => ?_⟩
      rw [hw ws fun j hj => hm j (List.mem_cons_of_mem _ hj), wipe_set (hm i List.mem_cons_self)]
theorem Tg.ok {K : PySem.W.Frag} {u : Mu} {H : Hp} {Q : L2.St → Hp → Prop} {tg : Tg} {v : V} {d : D} {σ : L2.St} {ρ ρ' : Sl} (he : tg.set d ρ = some ρ') (r : Rp K u H v d) (hE : EnvV K u H σ ρ)
    (h : ∀ σ', EnvV K u H σ' ρ' → (∀ ws, (∀ i ∈ tg.ixs, i ∈ ws) → wipe σ' ws = wipe σ ws) → Q σ' H) : tg.g K v σ H Q := by
  cases tg with
  | nm i =>
    cases he
    exact h _ (hE.set r) fun ws hm => wipe_set (hm i List.mem_cons_self)
  | tp ix =>
    cases d with
    | tup ds =>
      simp only [Tg.set] at he
      split at he
      · rename_i hl
        cases he
        cases r with
        | tup hq ra => exact ⟨_, _, rfl, hq.sq, by rw [ra.length, hl], gNs_ok hl ra hE h⟩
      · cases he
    | _ => cases he

/-! ### what is walked -/
structure Feeds (K : PySem.W.Frag) (J : It) (u : Mu) (H : Hp) (items : List D) : Prop where
  stop : ∀ u' H', AdvF u.m.length u H u' H' → J.stop items.length H'
  go : ∀ u' H' (i : Nat) d, AdvF u.m.length u H u' H' → items[i]? = some d → J.go i H'
  yld : ∀ u' H' S' (i : Nat) d x H2, AdvF u.m.length u H u' H' → StoR K u' H' S' → items[i]? = some d → J.yld i H' x H2 → Adv u'.m.length u' H' u' H2 ∧ StoR K u' H2 S' ∧ Rp K u' H2 x d
def JI (X : Cx) (wi : TI) (ρ : Sl) (S : Store) (P : List D → Store → Prop) (B : Bad) : Prop :=
  ∀ u σ H R, Wish X B u H → StoR X.K u H S → EnvV X.K u H σ ρ → (∀ J H' u' items S', Adv u.m.length u H u' H' → StoR X.K u' H' S' → Feeds X.K J u' H' items → P items S' → R J H') → wi σ H R
theorem rd_inj {H : Hp} {a : Addr} {o o' : HO} (h : Rd H a o) (h' : Rd H a o') (n : ∀ x y, o ≠ .frz x y) (n' : ∀ x y, o' ≠ .frz x y) : o = o' := by
  rcases h with h | ⟨x, h⟩ <;> rcases h' with h' | ⟨y, h'⟩
  · rw [h] at h'; exact Option.some.inj h'
  · rw [h] at h'; exact absurd (Option.some.inj h') (n _ _)
  · rw [h] at h'; exact absurd (Option.some.inj h').symm (n' _ _)
  · rw [h] at h'; injection Option.some.inj h'
section
variable {K : PySem.W.Frag} {u : Mu} {H : Hp}
theorem feeds_lst {a : Addr} {vs : List V} {ds : List D} (h : SqLo u H a vs) (r : RpA K u H vs ds) : Feeds K (Itl K a) u H ds where
  stop := fun u' H' A => ⟨vs, (h.adv A).sq, Nat.le_of_eq r.length⟩
  go := fun u' H' i d A e => by
    obtain ⟨v, h1, _⟩ := r.of e
    exact ⟨vs, v, (h.adv A).sq, h1⟩
  yld := fun u' H' S' i d x H2 A hS e y => by
    obtain ⟨rfl, hy⟩ := y
    obtain ⟨v, h1, h2⟩ := r.of e
    have := hy vs (h.adv A).sq
    rw [h1] at this; cases this
    exact ⟨.refl _ _ _, hS, h2.adv (Nat.le_refl _) A⟩
theorem feeds_tup {a : Addr} {vs : List V} {ds : List D} (h : SqTo K u H a vs) (r : RpA K u H vs ds) : Feeds K (Itt K a) u H ds where
  stop := fun u' H' A => ⟨vs, (h.adv A).sq, Nat.le_of_eq r.length⟩
  go := fun u' H' i d A e => by
    obtain ⟨v, h1, _⟩ := r.of e
    exact ⟨vs, v, (h.adv A).sq, h1⟩
  yld := fun u' H' S' i d x H2 A hS e y => by
    obtain ⟨rfl, hy⟩ := y
    obtain ⟨v, h1, h2⟩ := r.of e
    have := hy vs (h.adv A).sq
    rw [h1] at this; cases this
    exact ⟨.refl _ _ _, hS, h2.adv (Nat.le_refl _) A⟩
def irow (lo : Int) (n : Nat) : List D := (List.range n).map fun (i : Nat) => D.int (lo + (i : Int))
theorem feeds_rng {lo : Int} {n : Nat} : Feeds K (Itr lo n) u H (irow lo n) where
  stop := fun u' H' A => by show n ≤ (irow lo n).length; simp [irow]
  go := fun u' H' i d A e => by
    have h1 := (List.getElem?_eq_some_iff.mp e).1
    show i < n
    simpa [irow] using h1
  yld := fun u' H' S' i d x H2 A hS e y => by
    obtain ⟨rfl, rfl⟩ := y
    have hi := (List.getElem?_eq_some_iff.mp e).1
    have : d = .int (lo + i) := by
      have hi' : i < n := by simpa [irow] using hi
      simp [irow, hi'] at e
      exact e.symm
    subst this
    exact ⟨.refl _ _ _, hS, .int _⟩
theorem feeds_enum {a : Addr} {vs : List V} {ds : List D} (h : SqLo u H a vs) (r : RpA K u H vs ds) : Feeds K (Ite K a) u H ((List.range ds.length).zipWith (fun (i : Nat) d => D.tup [.int i, d]) ds) where
  stop := fun u' H' A => ⟨vs, (h.adv A).sq, by simp [r.length]⟩
  go := fun u' H' i d A e => by
    have hi := (List.getElem?_eq_some_iff.mp e).1
    have hi' : i < ds.length := by simpa using hi
    obtain ⟨v, h1, _⟩ := r.of (List.getElem?_eq_getElem hi')
    exact ⟨vs, v, (h.adv A).sq, h1⟩
  yld := fun u' H' S' i d x H2 A hS e y => by
    obtain ⟨T, z, rfl, hT, rfl, hy⟩ := y
    have hi := (List.getElem?_eq_some_iff.mp e).1
    have hi' : i < ds.length := by simpa using hi
    obtain ⟨v, h1, h2⟩ := r.of (List.getElem?_eq_getElem hi')
    have := hy vs (h.adv A).sq
    rw [h1] at this; cases this
    have ed : d = D.tup [.int i, ds[i]] := by
      simp [List.getElem?_zipWith, hi'] at e
      exact e.symm
    subst ed
    exact ⟨adv_new hS hT, hS.new hT, .tup (.inl ⟨.inl upd_same, hS.new_off hT⟩) (.cons (.int _) (.cons ((h2.adv (Nat.le_refl _) A).go (adv_new hS hT)) .nil))⟩
theorem feeds_zip {a b : Addr} {vs ws : List V} {ds es : List D} (h : SqLo u H a vs) (r : RpA K u H vs ds) (h' : SqLo u H b ws) (r' : RpA K u H ws es) : Feeds K (Itz K a b) u H (ds.zipWith (fun d e => D.tup [d, e]) es) where
  stop := fun u' H' A => ⟨vs, ws, (h.adv A).sq, (h'.adv A).sq, by simp [r.length, r'.length]; omega⟩
  go := fun u' H' i d A e => by
    have hi := (List.getElem?_eq_some_iff.mp e).1
    have hi' : i < ds.length ∧ i < es.length := by simp at hi; omega
    obtain ⟨v, h1, _⟩ := r.of (List.getElem?_eq_getElem hi'.1)
    obtain ⟨v', h1', _⟩ := r'.of (List.getElem?_eq_getElem hi'.2)
    exact ⟨vs, ws, v, v', (h.adv A).sq, (h'.adv A).sq, h1, h1'⟩
  yld := fun u' H' S' i d x H2 A hS e y => by
    obtain ⟨T, z, z', rfl, hT, rfl, hy, hy'⟩ := y
    have hi := (List.getElem?_eq_some_iff.mp e).1
    have hi' : i < ds.length ∧ i < es.length := by simp at hi; omega
    obtain ⟨v, h1, h2⟩ := r.of (List.getElem?_eq_getElem hi'.1)
    obtain ⟨v', h1', h2'⟩ := r'.of (List.getElem?_eq_getElem hi'.2)
    have q := hy vs (h.adv A).sq
    rw [h1] at q; cases q
    have q := hy' ws (h'.adv A).sq
    rw [h1'] at q; cases q
    have ed : d = D.tup [ds[i]'hi'.1, es[i]'hi'.2] := by
      simp [List.getElem?_zipWith, hi'.1, hi'.2] at e
      exact e.symm
    subst ed
    exact ⟨adv_new hS hT, hS.new hT, .tup (.inl ⟨.inl upd_same, hS.new_off hT⟩) (.cons ((h2.adv (Nat.le_refl _) A).go (adv_new hS hT)) (.cons ((h2'.adv (Nat.le_refl _) A).go (adv_new hS hT)) .nil))⟩
end
section
variable {X : Cx} {ρ : Sl} {S : Store} {P : List D → Store → Prop} {B : Bad} {l a b : Expr}
theorem ji_list (h : JE X l ρ S (fun d S1 => ∃ ds, d = .lst ds ∧ P ds S1) B) : JI X (iList X.K (wE X l)) ρ S P B := fun u σ H R hW hS hE hR =>
  h u σ H _ hW hS hE fun v H1 ⟨u1, d1, S1, A1, hS1, r1, ds, e, h1⟩ => by
    subst e
    cases r1 with
    | lst hq ra => exact ⟨_, rfl, ⟨_, hq.sq⟩, hR _ _ u1 ds S1 A1 hS1 (feeds_lst hq ra) h1⟩
theorem ji_tup (h : JE X l ρ S (fun d S1 => ∃ ds, d = .tup ds ∧ P ds S1) B) : JI X (iTup X.K (wE X l)) ρ S P B := fun u σ H R hW hS hE hR =>
  h u σ H _ hW hS hE fun v H1 ⟨u1, d1, S1, A1, hS1, r1, ds, e, h1⟩ => by
    subst e
    cases r1 with
    | tup hq ra => exact ⟨_, rfl, ⟨_, hq.sq⟩, hR _ _ u1 ds S1 A1 hS1 (feeds_tup hq ra) h1⟩
theorem ji_range1 {es : List Expr} (h : JA X es ρ S (fun ds S1 => ∃ j : Int, ds = [.int j] ∧ -(2 ^ 62) ≤ j ∧ j < 2 ^ 62 ∧ P (irow 0 j.toNat) S1) B) : JI X (iRng1 (wA X es)) ρ S P B := fun u σ H R hW hS hE hR =>
  h u σ H _ hW hS hE fun vs H1 ⟨u1, d1, S1, A1, hS1, r1, j, e, b1, b2, h1⟩ => by
    subst e
    cases r1 with
    | cons r t => cases r; cases t; exact ⟨j, rfl, b1, b2, hR _ _ u1 _ S1 A1 hS1 feeds_rng h1⟩
theorem ji_range2 {es : List Expr} (h : JA X es ρ S (fun ds S1 => ∃ i j : Int, ds = [.int i, .int j] ∧ (-(2 ^ 62) ≤ i ∧ i < 2 ^ 62 ∧ -(2 ^ 62) ≤ j ∧ j < 2 ^ 62) ∧ P (irow i (j - i).toNat) S1) B) : JI X (iRng2 (wA X es)) ρ S P B := fun u σ H R hW hS hE hR =>
  h u σ H _ hW hS hE fun vs H1 ⟨u1, d1, S1, A1, hS1, r1, i, j, e, b1, h1⟩ => by
    subst e
    cases r1 with
    | cons r t => cases r; cases t with
      | cons r t => cases r; cases t; exact ⟨i, j, rfl, b1, hR _ _ u1 _ S1 A1 hS1 feeds_rng h1⟩
theorem ji_enum {es : List Expr} (h : JA X es ρ S (fun ds S1 => ∃ xs, ds = [.lst xs] ∧ P ((List.range xs.length).zipWith (fun (i : Nat) d => D.tup [.int i, d]) xs) S1) B) : JI X (iEnum X.K (wA X es)) ρ S P B := fun u σ H R hW hS hE hR =>
  h u σ H _ hW hS hE fun vs H1 ⟨u1, d1, S1, A1, hS1, r1, xs, e, h1⟩ => by
    subst e
    cases r1 with
    | cons r t => cases t; cases r with
      | lst hq ra => exact ⟨_, _, rfl, hq.sq, hR _ _ u1 _ S1 A1 hS1 (feeds_enum hq ra) h1⟩
theorem ji_zip {es : List Expr} (h : JA X es ρ S (fun ds S1 => ∃ xs ys, ds = [.lst xs, .lst ys] ∧ P (xs.zipWith (fun d e => D.tup [d, e]) ys) S1) B) : JI X (iZip X.K (wA X es)) ρ S P B := fun u σ H R hW hS hE hR =>
  h u σ H _ hW hS hE fun vs H1 ⟨u1, d1, S1, A1, hS1, r1, xs, ys, e, h1⟩ => by
    subst e
    cases r1 with
    | cons r t => cases r with
      | lst hq ra => cases t with
        | cons r t => cases t; cases r with
          | lst hq' ra' => exact ⟨_, _, _, _, rfl, hq.sq, hq'.sq, hR _ _ u1 _ S1 A1 hS1 (feeds_zip hq ra hq' ra') h1⟩
end

/-! ### for -/
def LoopP (n : Nat) (X : Cx) (body : List Stmt) (tg : Tg) (P : Out → Prop) (B : Bad) : List D → Sl → Store → Prop
  | [], ρ, S => P (.nx ρ S)
  | d :: ds, ρ, S => ∃ ρ1, tg.set d ρ = some ρ1 ∧ JSs n X body ρ1 S (fun o => match o with
    | .nx ρ' S' => LoopP n X body tg P B ds ρ' S'
    | .ct ρ' S' => LoopP n X body tg P B ds ρ' S'
    | .bk ρ' S' => P (.nx ρ' S')
    | .rt d S' => P (.rt d S')) B
section
variable {X : Cx} {n : Nat} {S : Store} {ρ : Sl} {P : Out → Prop} {B : Bad} {pos : Pos}
theorem js_for {tgE iter : Expr} {body : List Stmt} {wi : TI} (tg : Tg) (hp : PassesOwn (model X.prog X.w) X.A X.env X.xe) (hc : X.calm = true) (hi : PI X tgE iter wi) (hg : PG X tgE (tg.g X.K))
    (h : JI X wi ρ S (fun items S1 => LoopP S1.length X body tg P B items ρ S1) B) (hs : ∀ x, foldedSetIterable iter X.env x = pure x := by intro _; rfl) : JS n X (.For tgE iter body [] pos) ρ S P B :=
  js_of (ps_for hp hc hi hg pss_w hs) fun u σ H Dd hn hW hS hE hP => h u σ H _ (hW.wish (hS.le hn)) hS hE fun J H1 u1 items S1 A1 hS1 F h1 => by
    have hn1 : n ≤ S1.length := by rw [← hS1.len]; exact Nat.le_trans (hS.le hn) A1.len
    have lw : ∀ {u' : Mu} {H' : Hp}, Adv S1.length u1 H1 u' H' → Adv n u H u' H' := fun A => (A1.weak (hS.le hn)).trans A hn1
    refine ⟨fun i m σ' H' => m = items.length - i ∧ i ≤ items.length ∧ ∃ u' ρ' S', Adv S1.length u1 H1 u' H' ∧ StoR X.K u' H' S' ∧ EnvV X.K u' H' σ' ρ' ∧ S1.length ≤ S'.length ∧ LoopP S1.length X body tg P B (items.drop i) ρ' S',
      ⟨_, rfl, Nat.zero_le _, u1, ρ, S1, .refl _ _ _, hS1, hE.adv A1, Nat.le_refl _, h1⟩, ?_⟩
    rintro i m σ' H' ⟨rfl, hil, u', ρ', S', A', hS', hE', hn', h'⟩
    by_cases hlt : i < items.length
    · right
      have ed : items.drop i = items[i] :: items.drop (i + 1) := List.drop_eq_getElem_cons hlt
      rw [ed] at h'
      obtain ⟨ρ1, e1, hb⟩ := h'
      have Au : AdvF u1.m.length u1 H1 u' H' := by rw [hS1.len]; exact A'.toAdvF
      refine ⟨F.go u' H' i _ Au (List.getElem?_eq_getElem hlt), fun σ2 H2 => i + 1 ≤ items.length ∧ ∃ u2 ρ2 S2, Adv S1.length u1 H1 u2 H2 ∧ StoR X.K u2 H2 S2 ∧ EnvV X.K u2 H2 σ2 ρ2 ∧ S1.length ≤ S2.length ∧ LoopP S1.length X body tg P B (items.drop (i + 1)) ρ2 S2,
        fun σ2 H2 q => ⟨items.length - (i + 1), by omega, rfl, q⟩, fun x H2 y => ?_⟩
      obtain ⟨A2, hS2, r2⟩ := F.yld u' H' S' i _ x H2 Au hS' (List.getElem?_eq_getElem hlt) y
      refine Tg.ok e1 r2 (hE'.adv A2) fun σ3 hE3 _ => ?_
      have A3 : Adv S1.length u1 H1 u' H2 := A'.trans (A2.weak (by rw [hS'.len]; exact hn')) (Nat.le_refl _)
      refine hb u' σ3 H2 _ hn' ?_ hS2 hE3 ?_
      · obtain ⟨W, t, q⟩ := hW
        refine ⟨W, t, fun cls dx σ4 H4 g => q cls dx σ4 H4 ?_⟩
        obtain ⟨u4, fs, S4, A4, hS4, x4, hn4, b4⟩ := g
        exact ⟨u4, fs, S4, lw (A3.trans A4 (Nat.le_refl _)), hS4, x4, Nat.le_trans hn1 hn4, b4⟩
      · refine ⟨fun σ4 H4 ⟨u4, ρ4, S4, A4, hS4, hE4, hn4, q⟩ => ⟨hlt, u4, ρ4, S4, A3.trans A4 (Nat.le_refl _), hS4, hE4, hn4, q⟩, fun v H4 ⟨u4, d4, S4, A4, hS4, r4, hn4, q⟩ => hP.rt v H4 ⟨u4, d4, S4, lw (A3.trans A4 (Nat.le_refl _)), hS4, r4, Nat.le_trans hn1 hn4, q⟩,
          fun σ4 H4 ⟨u4, ρ4, S4, A4, hS4, hE4, hn4, q⟩ => hP.nx σ4 H4 ⟨u4, ρ4, S4, lw (A3.trans A4 (Nat.le_refl _)), hS4, hE4, Nat.le_trans hn1 hn4, q⟩, fun σ4 H4 ⟨u4, ρ4, S4, A4, hS4, hE4, hn4, q⟩ => ⟨hlt, u4, ρ4, S4, A3.trans A4 (Nat.le_refl _), hS4, hE4, hn4, q⟩⟩
    · left
      have ei : i = items.length := by omega
      subst ei
      rw [List.drop_length] at h'
      exact ⟨F.stop u' H' (by rw [hS1.len]; exact A'.toAdvF), hP.nx σ' H' ⟨u', ρ', S', lw A', hS', hE', Nat.le_trans hn1 hn', h'⟩⟩
end
end J
namespace J
open PySem PySem.Spec PyProof.Rows L2

/-! ### list comprehensions of any number of clauses -/
/-- what a turn of the clause ahead does once its tests are passed: the next clause, or the element -/
def StepW (prog : Program) (w : World) (A : Around) (C elt : Expr) (acc : Value) (env : Env) (j : Nat) (Q : Shared → Prop) (s : Shared) : Option Comprehension → Prop
  | some g => wpAny (model prog w) A (eval g.iter env) (fun x s1 => wpAny (model prog w) A (pyIter x) (fun it1 s2 => codeAny (model prog w) A (.compStart C j it1 acc env) (fun r s3 => match r with
      | .ok _ => Q s3
      | .error _ => False) s2) (fun _ _ => False) s1) (fun _ _ => False) s
  | none => wpAny (model prog w) A (eval elt env) (fun x s1 => wpAny (model prog w) A (call (.builtin "list.append") [acc, x]) (fun _ s2 => Q s2) (fun _ _ => False) s1) (fun _ _ => False) s
abbrev testsOf (ifs : List Expr) (env : Env) : Sem Bool := forIn ifs true fun c r => if r = true then do let ok ← isTrue c env (eval c env); pure (ForInStep.yield ok) else pure (ForInStep.yield r)
theorem loopN {prog : Program} {w : World} {A : Around} {R : Result → Shared → Prop} {elt : Expr} {gens : List Comprehension} {scope : Scope} {pos : Pos} {it acc : Value} {env : Env} {j : Nat} {t i : Expr} {ifs : List Expr}
    (hg : gens[j]? = some ⟨t, i, ifs, 0⟩) (hs : ∀ g, gens[j + 1]? = some g → g.is_async = 0 ∧ ∀ x, foldedSetIterable g.iter env x = pure x) (I : Nat → Shared → Prop)
    (turn : ∀ n s, I n s → wpAny (model prog w) A (pyNext it) (fun r s1 => match r with
      | none => R (.ok .next) s1
      | some v => wpAny (model prog w) A (letOwnedTupleGo t it v) (fun _ s2 => wpAny (model prog w) A (assign t env v) (fun _ s3 => wpAny (model prog w) A (testsOf ifs env) (fun ok s4 =>
          if ok = true then StepW prog w A (.ListComp elt gens scope pos) elt acc env (j + 1) (fun s5 => ∃ m, m < n ∧ I m s5) s4 gens[j + 1]? else ∃ m, m < n ∧ I m s4) (fun _ _ => False) s3) (fun _ _ => False) s2) (fun _ _ => False) s1) (fun _ _ => False) s)
    (n : Nat) (s : Shared) (h : I n s) : codeAny (model prog w) A (.compLoop (.ListComp elt gens scope pos) j it acc env) R s := by
  refine codeAny_loop rfl I (fun n s hI => ?_) n h
  refine wpAny_noted (m := compTurn (.ListComp elt gens scope pos) j it acc env) ?_
  have ht := turn n s hI
  cases hg' : gens[j + 1]? with
  | none =>
    rw [hg'] at ht
    have e : compTurn (.ListComp elt gens scope pos) j it acc env = (do
        standAt i.pos
        match ← pyNext it with
        | none => pure (.done .next)
        | some v =>
          letOwnedTupleGo t it v
          assign t env v
          let ok ← testsOf ifs env
          if ok then
            (do let _ ← call (.builtin "list.append") [acc, ← eval elt env])
          again (.compLoop (.ListComp elt gens scope pos) j it acc env)) := by
      unfold compTurn
      simp only [hg, hg']
      rfl
    rw [e]
    refine wpAny_bind (wpAny_standAt (wpAny_bind (thnF ht fun r s1 h1 => ?_)))
    cases r with
    | none => exact wpAny_pure h1
    | some v =>
      refine wpAny_bind (thnF h1 fun _ s2 h2 => wpAny_bind (thnF h2 fun _ s3 h3 => wpAny_bind (thnF h3 fun ok s4 h4 => ?_)))
      cases ok with
      | false => exact wpAny_pure ⟨rfl, h4⟩
      | true =>
        have h4 : wpAny (model prog w) A (eval elt env) (fun x s1 => wpAny (model prog w) A (call (.builtin "list.append") [acc, x]) (fun _ s2 => ∃ m, m < n ∧ I m s2) (fun _ _ => False) s1) (fun _ _ => False) s4 := h4
        exact wpAny_bind (wpAny_bind (thnF h4 fun x s5 h5 => wpAny_bind (thnF h5 fun _ s6 h6 => wpAny_pure (wpAny_pure ⟨rfl, h6⟩))))
  | some g =>
    rw [hg'] at ht
    obtain ⟨ha, hf⟩ := hs g hg'
    obtain ⟨t', i', ifs', as'⟩ := g
    cases ha
    have e : compTurn (.ListComp elt gens scope pos) j it acc env = (do
        standAt i.pos
        match ← pyNext it with
        | none => pure (.done .next)
        | some v =>
          letOwnedTupleGo t it v
          assign t env v
          let ok ← testsOf ifs env
          if ok then
            let x ← eval i' env
            standAt i'.pos
            let x ← foldedSetIterable i' env x
            let _ ← runOwn (.compStart (.ListComp elt gens scope pos) (j + 1) (← holding [x] (pyIter x)) acc env) env
          again (.compLoop (.ListComp elt gens scope pos) j it acc env)) := by
      unfold compTurn
      simp only [hg, hg']
      rfl
    rw [e]
    refine wpAny_bind (wpAny_standAt (wpAny_bind (thnF ht fun r s1 h1 => ?_)))
    cases r with
    | none => exact wpAny_pure h1
    | some v =>
      refine wpAny_bind (thnF h1 fun _ s2 h2 => wpAny_bind (thnF h2 fun _ s3 h3 => wpAny_bind (thnF h3 fun ok s4 h4 => ?_)))
      cases ok with
      | false => exact wpAny_pure ⟨rfl, h4⟩
      | true =>
        have h4 : wpAny (model prog w) A (eval i' env) (fun x s1 => wpAny (model prog w) A (pyIter x) (fun it1 s2 => codeAny (model prog w) A (.compStart (.ListComp elt gens scope pos) (j + 1) it1 acc env) (fun r s3 => match r with
          | .ok _ => ∃ m, m < n ∧ I m s3
          | .error _ => False) s2) (fun _ _ => False) s1) (fun _ _ => False) s4 := h4
        refine wpAny_bind (thnF h4 fun x s5 h5 => wpAny_bind (wpAny_standAt (wpAny_bind (wpAny_of_eq (hf x) (wpAny_bind (wpAny_holding (thnF h5 fun it1 s6 h6 => wpAny_bind (wpAny_runOwn ?_))))))))
        rw [Around.mark_none]
        refine codeAny_mono h6 fun r s7 hr => ?_
        cases r with
        | ok f => first
          | exact wpAny_pure ⟨rfl, hr⟩
          | exact wpAny_bind (wpAny_pure (wpAny_pure ⟨rfl, hr⟩))
        | error x => exact hr.elim
theorem startN {prog : Program} {w : World} {A : Around} {R : Result → Shared → Prop} {elt : Expr} {gens : List Comprehension} {scope : Scope} {pos : Pos} {it acc : Value} {env : Env} {j : Nat} {t i : Expr} {ifs : List Expr} {s : Shared}
    (hg : gens[j]? = some ⟨t, i, ifs, 0⟩) (h0 : codeAny (model prog w) A (.compLoop (.ListComp elt gens scope pos) j it acc env) R s)
    (h : wpAny (model prog w) A (pyIter it) (fun it' s' => codeAny (model prog w) A (.compLoop (.ListComp elt gens scope pos) j it' acc env) R s') (fun _ _ => False) s) :
    codeAny (model prog w) A (.compStart (.ListComp elt gens scope pos) j it acc env) R s := by
  refine codeAny_of_tree (wpAny_notedAt (m := compStart (.ListComp elt gens scope pos) j it acc env) ?_)
  have hc : clausesOf (.ListComp elt gens scope pos) = gens := rfl
  unfold compStart
  rw [hc, hg]
  refine wpAny_bind (wpAny_askSetting (wpAny_ite ?_))
  split
  · first
      | exact wpAny_pure ⟨rfl, h0⟩
      | exact wpAny_bind (wpAny_pure (wpAny_pure ⟨rfl, h0⟩))
  · refine wpAny_bind (wpAny_rule ?_)
    first
      | exact wpAny_bind (wpAny_standAt (wpAny_bind (thnF h fun it' s' h' => wpAny_pure ⟨rfl, h'⟩)))
      | (show wpAny _ _ (standAt i.pos >>= _) _ _ s; exact wpAny_bind (wpAny_standAt (wpAny_bind (thnF h fun it' s' h' => wpAny_pure ⟨rfl, h'⟩))))

structure Cl where
  wi : TI
  g : TG
  tt : TT
  vs : List Nat
structure ClOk (Y : Cx) (g : Comprehension) (c : Cl) : Prop where
  as : g.is_async = 0
  hs : ∀ env x, foldedSetIterable g.iter env x = pure x
  ip : PI Y g.target g.iter c.wi
  pg : PG Y g.target c.g
  pt : PTs Y g.ifs c.tt
inductive ClsOk (Y : Cx) : List Comprehension → List Cl → Prop
  | nil : ClsOk Y [] []
  | cons {g : Comprehension} {gs : List Comprehension} {c : Cl} {cs : List Cl} : ClOk Y g c → (∀ i ∈ cs.flatMap (·.vs), i ∉ c.vs) → ClsOk Y gs cs → ClsOk Y (g :: gs) (c :: cs)
def tLoopJ (inn : L2.St → Hp → (Hp → Prop) → Prop) (J : It) (c : Cl) (σ : L2.St) (H : Hp) (done : Hp → Prop) : Prop := ∃ W : Nat → Nat → Hp → Prop, (∃ m, W 0 m H) ∧ ∀ i m H, W i m H →
  (J.stop i H ∧ done H) ∨ (J.go i H ∧ ∃ Nx : Hp → Prop, (∀ H', Nx H' → ∃ m', m' < m ∧ W (i + 1) m' H') ∧ ∀ x H', J.yld i H x H' → c.g x (wipe σ c.vs) H' fun σ2 H2 => wipe σ2 c.vs = wipe σ c.vs ∧ c.tt σ2 H2 fun b H3 =>
    if b = true then inn σ2 H3 Nx else Nx H3)
def tIn (te : TE) (D : Addr) : List Cl → L2.St → Hp → (Hp → Prop) → Prop
  | [], σ, H, done => te σ H fun y H4 => ∃ acc, H4 D = some (.lst acc) ∧ acc.length < sizeLine ∧ done (upd H4 D (.lst (acc ++ [y])))
  | c :: cs, σ, H, done => c.wi σ H fun J H4 => tLoopJ (tIn te D cs) J c σ H4 done
def Kn (vs : List Nat) (σ σ' : L2.St) : Prop := σ'.length = σ.length ∧ ∀ (i : Nat) v, i ∉ vs → σ[i]? = some (some v) → σ'[i]? = some (some v)
def Clean (vs : List Nat) (σ : L2.St) : Prop := ∀ (i : Nat) v, i ∈ vs → σ[i]? ≠ some (some v)
theorem StepW.mono {prog : Program} {w : World} {A : Around} {C elt : Expr} {acc : Value} {env : Env} {j : Nat} {Q Q' : Shared → Prop} {s : Shared} {o : Option Comprehension} (h : StepW prog w A C elt acc env j Q s o) (hq : ∀ s, Q s → Q' s) : StepW prog w A C elt acc env j Q' s o := by
  cases o with
  | none => exact thn h fun x s1 h1 => thn h1 fun _ s2 h2 => hq s2 h2
  | some g =>
    refine thn h fun x s1 h1 => thn h1 fun it1 s2 h2 => codeAny_mono h2 fun r s3 h3 => ?_
    cases r with
    | ok f => exact hq s3 h3
    | error e => exact h3
theorem noX {Y : Cx} (hx : ∀ e s, ¬ Y.xe e s) {α : Type} {m : Sem α} {Q Q' : α → Shared → Prop} {s : Shared} (h : wpAny (model Y.prog Y.w) Y.A m Q Y.xe s) (hq : ∀ a s, Q a s → Q' a s) : wpAny (model Y.prog Y.w) Y.A m Q' (fun _ _ => False) s :=
  wpAny_mono h hq fun e s z => hx e s z
section
variable {Y : Cx} {elt : Expr} {gens : List Comprehension} {scope : Scope} {pos : Pos} {te : TE} {D : Addr}
/-- the promise of what follows a clause's tests -/
def InnerOk (Y : Cx) (elt : Expr) (gens : List Comprehension) (scope : Scope) (pos : Pos) (te : TE) (D : Addr) (cs : List Cl) (j : Nat) : Prop :=
  ∀ pins s σ H done, Inv Y pins σ H s → Clean (cs.flatMap (·.vs)) σ → tIn te D cs σ H done →
    StepW Y.prog Y.w Y.A (.ListComp elt gens scope pos) elt (.ref D) Y.env j (fun s' => ∃ σ' H', Inv Y pins σ' H' s' ∧ Kn (cs.flatMap (·.vs)) σ σ' ∧ done H') s gens[j]?
theorem loop_ok {j : Nat} {c : Cl} {cs : List Cl} {t i : Expr} {ifs : List Expr} {R : Result → Shared → Prop} {J : It} {fp : List Addr} {it : Addr} {tn : Nat → Heap → Prop} {pins : List (Addr × Obj)} {σ : L2.St} {H : Hp} {s : Shared} {done : Hp → Prop}
    (hx : ∀ e s, ¬ Y.xe e s) (hc : Y.calm = true) (hg : gens[j]? = some ⟨t, i, ifs, 0⟩) (hn : ∀ g, gens[j + 1]? = some g → g.is_async = 0 ∧ ∀ x, foldedSetIterable g.iter Y.env x = pure x) (pg : PG Y t c.g) (pt : PTs Y ifs c.tt) (dj : ∀ i ∈ cs.flatMap (·.vs), i ∉ c.vs)
    (T : Turn Y.prog Y.w Y.K t J fp it tn) (stat : ∀ σ' H' s', Inv Y pins σ' H' s' → (∀ b ∈ fp, H' b = none) → ∀ b ∈ fp, FpOk Y pins H' b)
    (inn : InnerOk Y elt gens scope pos te D cs (j + 1)) (I0 : Inv Y pins (wipe σ c.vs) H s) (cl : Clean (cs.flatMap (·.vs)) σ) (t0 : tn 0 s.heap) (n0 : ∀ b ∈ fp, H b = none) (h : tLoopJ (tIn te D cs) J c σ H done)
    (fin : ∀ s' H', Inv Y pins (wipe σ c.vs) H' s' → done H' → R (.ok .next) s') : codeAny (model Y.prog Y.w) Y.A (.compLoop (.ListComp elt gens scope pos) j (.ref it) (.ref D) Y.env) R s := by
  obtain ⟨W, ⟨m0, w0⟩, turn⟩ := h
  refine loopN hg hn (fun n s' => ∃ i H', Inv Y pins (wipe σ c.vs) H' s' ∧ tn i s'.heap ∧ (∀ b ∈ fp, H' b = none) ∧ W i n H') ?_ m0 s ⟨0, H, I0, t0, n0, w0⟩
  rintro n s5 ⟨k, H5, I5, t5, n5, w5⟩
  rcases turn k n H5 w5 with ⟨st, dn⟩ | ⟨go, Nx, hNx, step⟩
  · refine thn (T.done Y rfl rfl rfl hc k pins s5 _ H5 (fun _ _ => False) I5 (stat _ _ _ I5 n5) t5 st) fun r s6 hr => ?_
    obtain ⟨rfl, I6⟩ := hr
    exact fin s6 H5 I6 dn
  · refine thn (T.item Y rfl rfl rfl hc k pins s5 _ H5 (fun _ _ => False) I5 (stat _ _ _ I5 n5) t5 go) fun r s6 hr => ?_
    obtain ⟨v, rfl, h6⟩ := hr
    refine thn h6 fun _ s7 h7 => ?_
    obtain ⟨x, H7, I7, r7, y7, t7, n7⟩ := h7
    have P7 := I7.pinned (stat _ _ _ I7 n7) (T.obj _ _ t7)
    refine noX hx (pg.run _ s7 _ H7 x v _ P7 r7 (step x H7 y7)) fun _ s8 h8 => ?_
    obtain ⟨σ8, H8, I8, w8, q8⟩ := h8
    refine noX hx (pt.run _ s8 σ8 H8 _ I8 q8) fun b s9 h9 => ?_
    obtain ⟨H9, I9, q9⟩ := h9
    have l8 : (wipe σ c.vs).length = σ8.length := by rw [← w8, wipe_length]
    have back : ∀ {σ9 : L2.St} {s' : Shared} {H' : Hp}, Inv Y (pins ++ pinsAt fp s7.heap) σ9 H' s' → Kn (cs.flatMap (·.vs)) σ8 σ9 → Nx H' → ∃ m, m < n ∧ ∃ i H', Inv Y pins (wipe σ c.vs) H' s' ∧ tn i s'.heap ∧ (∀ b ∈ fp, H' b = none) ∧ W i m H' := fun {σ9 s' H'} I' kn nx => by
      obtain ⟨m', hm, w'⟩ := hNx H' nx
      have still : ∀ b ∈ fp, ∀ o, s7.heap.get? b = some o → s'.heap.get? b = some o ∧ H' b = none := fun b hb o e =>
        ⟨(I'.pin (b, o) (List.mem_append_right _ (List.mem_append_right _ (mem_pinsAt hb e)))).1, (I'.pin (b, o) (List.mem_append_right _ (List.mem_append_right _ (mem_pinsAt hb e)))).2.1⟩
      refine ⟨m', hm, k + 1, H', I'.unpinned.weak (l8.trans kn.1.symm) (fun l z e => ?_), T.keep _ _ _ t7 fun b hb o e => (still b hb o e).1, fun b hb => ?_, w'⟩
      · have e1 := e
        rw [← w8] at e1
        exact kn.2 l z (fun hm => cl l z hm (wipe_some e).1) (wipe_some e1).1
      · obtain ⟨o, e, _⟩ := T.obj _ _ t7 b hb
        exact (still b hb o e).2
    cases b with
    | false =>
      rw [if_neg Bool.false_ne_true] at q9 ⊢
      exact back I9 ⟨rfl, fun _ _ _ e => e⟩ q9
    | true =>
      rw [if_pos rfl] at q9 ⊢
      refine (inn _ s9 σ8 H9 Nx I9 (fun l z hm e => ?_) q9).mono fun s' h' => ?_
      · have e1 : (wipe σ8 c.vs)[l]? = some (some z) := (wipe_out (dj l hm)).trans e
        rw [w8] at e1
        exact cl l z hm (wipe_some e1).1
      · obtain ⟨σ9, H', I', kn, nx⟩ := h'
        exact back I' kn nx
theorem ClsOk.at {gs : List Comprehension} {cs : List Cl} {c : Cl} (h : ClsOk Y gs (c :: cs)) : ∃ t i ifs gs', gs = ⟨t, i, ifs, 0⟩ :: gs' ∧ ClOk Y ⟨t, i, ifs, 0⟩ c ∧ (∀ i ∈ cs.flatMap (·.vs), i ∉ c.vs) ∧ ClsOk Y gs' cs := by
  cases h with
  | cons ok dj r =>
    rename_i g gs'
    obtain ⟨t, i, ifs, as⟩ := g
    cases ok.as
    exact ⟨t, i, ifs, gs', rfl, ok, dj, r⟩
theorem ClsOk.next {gs : List Comprehension} {cs : List Cl} (h : ClsOk Y gs cs) : ∀ g, gs[0]? = some g → g.is_async = 0 ∧ ∀ x, foldedSetIterable g.iter Y.env x = pure x := fun g e => by
  cases h with
  | nil => cases e
  | cons ok _ _ => cases e; exact ⟨ok.as, fun x => ok.hs _ x⟩
theorem inner_ok (hx : ∀ e s, ¬ Y.xe e s) (hc : Y.calm = true) (he : PE Y elt te) : ∀ (cs : List Cl) (j : Nat), ClsOk Y (gens.drop j) cs → InnerOk Y elt gens scope pos te D cs j
  | [], j, ok => fun pins s σ H done I cl h => by
    have e : gens[j]? = none := by
      cases q : gens.drop j with
      | nil => exact List.getElem?_eq_none (List.drop_eq_nil_iff.mp q)
      | cons g gs => rw [q] at ok; cases ok
    rw [e]
    refine noX hx (he.run pins s σ H _ I h) fun x s1 h1 => ?_
    obtain ⟨y, H1, I1, r1, acc, e1, z1, d1⟩ := h1
    exact app_ok I1 e1 z1 r1 fun s2 I2 => ⟨σ, _, I2, ⟨rfl, fun _ _ _ e => e⟩, d1⟩
  | c :: cs, j, ok => fun pins s σ H done I cl h => by
    obtain ⟨t, i, ifs, gs', eg, okc, dj, okr⟩ := ok.at
    have e : gens[j]? = some ⟨t, i, ifs, 0⟩ := by
      have : (gens.drop j)[0]? = some ⟨t, i, ifs, 0⟩ := by rw [eg]; rfl
      rwa [List.getElem?_drop, Nat.add_zero] at this
    have e' : gens.drop (j + 1) = gs' := by rw [← List.tail_drop, eg]; rfl
    have okr' : ClsOk Y (gens.drop (j + 1)) cs := by rw [e']; exact okr
    have inn := inner_ok hx hc he cs (j + 1) okr'
    have hn : ∀ g, gens[j + 1]? = some g → g.is_async = 0 ∧ ∀ x, foldedSetIterable g.iter Y.env x = pure x := fun g hg => okr'.next g (by rw [List.getElem?_drop]; exact hg)
    rw [e]
    have cl' : Clean (cs.flatMap (·.vs)) σ := fun l z hm => cl l z (by rw [List.flatMap_cons]; exact List.mem_append_right _ hm)
    refine noX hx (okc.ip.run pins s σ H _ I h) fun x s1 h1 => noX hx h1 fun itv s2 h2 => ?_
    obtain ⟨it, fp, tn, J, H2, rfl, I2, T, t2, f2, q2⟩ := h2
    have lp : codeAny (model Y.prog Y.w) Y.A (.compLoop (.ListComp elt gens scope pos) j (.ref it) (.ref D) Y.env) (fun r s3 => match r with
        | .ok _ => ∃ σ' H', Inv Y pins σ' H' s3 ∧ Kn ((c :: cs).flatMap (·.vs)) σ σ' ∧ done H'
        | .error _ => False) s2 :=
      loop_ok hx hc e hn okc.pg okc.pt dj T (fun _ _ _ _ hn b hb => ⟨hn b hb, (f2 b hb).2⟩) inn (I2.weak (wipe_length _ _) fun l z e => (wipe_some e).1) cl' t2 (fun b hb => (f2 b hb).1) q2
        fun s' H' I' d' => ⟨_, H', I', ⟨wipe_length _ _, fun l z hm ez => (wipe_out fun hm' => hm (by rw [List.flatMap_cons]; exact List.mem_append_left _ hm')).trans ez⟩, d'⟩
    exact startN e lp (T.self Y.A 0 _ _ _ t2 lp)
end
end J
namespace J
open PySem PySem.Spec PyProof.Rows L2
section
variable {X : Cx}
theorem lcN {pins : List (Addr × Obj)} {s : Shared} {σ : L2.St} {H : Hp} {Q : VK} {elt t i : Expr} {ifs : List Expr} {gs : List Comprehension} {scope : Scope} {own : List (Str × Nat)} {pos pos' : Pos} {c0 : Cl} {cs : List Cl} {te : TE} {use : Option (Value → Sem Unit)} {Qf : Value → Shared → Prop}
    (hc : X.calm = true) (hN : X.N.Nodup) (I : Inv X pins σ H s) (hi : PI X t i c0.wi) (ok : BlkOk X.N X.env.scope scope own)
    (hg : ∀ s H C cl fp, PG (X.blk s H scope (compEnvC scope cl C X.env) fp) t c0.g) (ht : ∀ s H C cl fp, PTs (X.blk s H scope (compEnvC scope cl C X.env) fp) ifs c0.tt)
    (hcs : ∀ s H C cl fp, ClsOk (X.blk s H scope (compEnvC scope cl C X.env) fp) gs cs) (dj : ∀ i ∈ cs.flatMap (·.vs), i ∉ c0.vs) (hv : ∀ i ∈ cs.flatMap (·.vs), i ∈ own.map (·.2))
    (he : ∀ s H C cl fp, PE (X.blk s H scope (compEnvC scope cl C X.env) fp) elt te) (hs : ∀ x, foldedSetIterable i X.env x = pure x)
    (h : c0.wi σ H fun J H1 => ∀ D, H1 D = none → tLoopJ (tIn te D cs) J c0 (wipe σ (own.map (·.2))) (upd H1 D (.lst [])) fun H' => Q (.ref D) H')
    (hRR : ∀ D C s' m H', Inv X pins σ H' s' → Q (.ref D) H' → s'.heap.Ns C m → FpOk X pins H' C → compPost (model X.prog X.w) X.A X.xe use Qf (.ref D) C (.ok .next) s') :
    wpAny (model X.prog X.w) X.A (comprehension (.ListComp elt (⟨t, i, ifs, 0⟩ :: gs) scope pos) scope X.env pos' (newList []) false (eval i X.env) use) Qf X.xe s := by
  have cells : ∀ y ∈ scope.names, y.2 = .free → ∃ c, X.env.cells.lookup y.1 = some c := fun y hy e => (ok.free y hy e).elim (fun k => I.ok.has _ (.inl k)) fun k => I.ok.has _ (.inr k)
  refine wpAny_comprehension_free (use := use) rfl hs (closure_ok cells) ok.kind (fun y hy e => by rw [ok.uniq y hy, e]) ?_
  refine thn (hi.run pins s σ H _ I h) fun xv s1 h1 => thn h1 fun itv s2 h2 => ?_
  obtain ⟨it, fp, tn, J, H2, rfl, I2, T, t2, f2, q⟩ := h2
  refine wpAny_newObj_type (newEnv_comp ?_) (by show 0 ≤ sizeLine; decide)
  generalize eD : s2.heap.objs.size = D
  have nD : H2 D = none := I2.hok.fresh (Nat.le_of_eq eD)
  have lp := q D nD
  clear q
  generalize e3 : ({ s2 with heap := s2.heap.push { cls := .type "list", data := .seq ([] : List Value).toArray } } : Shared) = s3
  have k3 : ∀ b o, s2.heap.get? b = some o → s3.heap.get? b = some o := fun b o e => by rw [← e3]; exact Heap.get?_push_of_some _ e
  have I3 : Inv X pins σ (upd H2 D (.lst [])) s3 := by
    rw [← e3]
    refine I2.laid (t' := s2.toks) (fun b o e => Heap.get?_push_of_some _ e) (Nat.le_of_eq eD) ⟨Nat.zero_le _, [], 0, .nil, ?_⟩
    rw [← eD]
    exact Heap.get?_push_size _ rfl
  have z3 : s3.heap.objs.size = s2.heap.objs.size + 1 := by rw [← e3]; exact Heap.size_push _ _
  have f3 : ∀ b ∈ fp, FpOk X pins (upd H2 D (.lst [])) b ∧ b < s3.heap.objs.size := fun b hb => by
    obtain ⟨o, e, _⟩ := T.obj _ _ t2 b hb
    have hlt := Heap.lt_size e
    exact ⟨⟨by rw [upd_ne (by rw [← eD]; exact Nat.ne_of_lt hlt)]; exact (f2 b hb).1, (f2 b hb).2⟩, by rw [z3]; exact Nat.lt_succ_of_lt hlt⟩
  have I4 := block_start I3 ok hN f3
  generalize eH : upd H2 D (.lst []) = H3 at I3 I4 f3 lp
  have G1 := hg s3 H3 s3.heap.objs.size (cellsFrom (s3.heap.objs.size + 1) scope.names (cloFrom X.env.cells scope.names [])) fp
  have G2 := ht s3 H3 s3.heap.objs.size (cellsFrom (s3.heap.objs.size + 1) scope.names (cloFrom X.env.cells scope.names [])) fp
  have G3 := hcs s3 H3 s3.heap.objs.size (cellsFrom (s3.heap.objs.size + 1) scope.names (cloFrom X.env.cells scope.names [])) fp
  have G4 := he s3 H3 s3.heap.objs.size (cellsFrom (s3.heap.objs.size + 1) scope.names (cloFrom X.env.cells scope.names [])) fp
  show codeAny _ _ (.compStart (.ListComp elt (⟨t, i, ifs, 0⟩ :: gs) scope pos) 0 (.ref it) (.ref D) (compEnvC scope (cellsFrom (s3.heap.objs.size + 1) scope.names (cloFrom X.env.cells scope.names [])) s3.heap.objs.size X.env)) (compPost (model X.prog X.w) X.A X.xe use Qf (.ref D) s3.heap.objs.size)
    { s3 with heap := pushCells (s3.heap.push { cls := .type "dict", data := .dict #[] }) scope.names }
  generalize ec : compEnvC scope (cellsFrom (s3.heap.objs.size + 1) scope.names (cloFrom X.env.cells scope.names [])) s3.heap.objs.size X.env = ce at I4 G1 G2 G3 G4 ⊢
  have cL : ce.locals = s3.heap.objs.size := by subst ec; rfl
  generalize e4 : ({ s3 with heap := pushCells (s3.heap.push { cls := .type "dict", data := .dict #[] }) scope.names } : Shared) = s4 at I4 ⊢
  have t4 : tn 0 s4.heap := T.keep _ _ _ t2 fun b _ o e => by rw [← e4]; exact pushCells_keeps _ _ _ _ (Heap.get?_push_of_some _ (k3 b o e))
  have inn : InnerOk (X.blk s3 H3 scope ce fp) elt (⟨t, i, ifs, 0⟩ :: gs) scope pos te D cs 1 := inner_ok (Y := X.blk s3 H3 scope ce fp) (fun _ _ z => z) hc G4 cs 1 G3
  have cl : Clean (cs.flatMap (·.vs)) (wipe σ (own.map (·.2))) := fun l z hm e => (wipe_some e).2 (hv l hm)
  have body : codeAny (model X.prog X.w) X.A (.compLoop (.ListComp elt (⟨t, i, ifs, 0⟩ :: gs) scope pos) 0 (.ref it) (.ref D) ce) (compPost (model X.prog X.w) X.A X.xe use Qf (.ref D) s3.heap.objs.size) s4 := by
    refine loop_ok (Y := X.blk s3 H3 scope ce fp) (pins := []) (c := c0) (cs := cs) (σ := wipe σ (own.map (·.2))) (H := H3) (fun _ _ z => z) hc rfl (fun g hg => G3.next g hg) G1 G2 dj T ?_ inn (I4.weak (wipe_length _ _) fun l z e => (wipe_some e).1) cl t4 (fun b hb => (f3 b hb).1.1) lp fun s' H' I' d' => ?_
    · exact fun σ' H' s' I' hn b hb => ⟨hn b hb, (I'.ok.exf b hb).1, I'.ok.exfs b hb, .inl hb, fun x c e => (I'.ok.exf b hb).2 x c e, fun p hp => absurd (show p ∈ ([] : List (Addr × Obj)) ++ [] from hp) (by simp)⟩
    · have I7 : Inv X pins σ H' s' := I3.call' (ch := fp) I'.os I'.base I'.hok I'.bare fun b hb => let f := (f3 b hb).1.2; ⟨f.2.2.1, f.1, f.2.2.2.1, f.2.2.2.2⟩
      have nC : H' s3.heap.objs.size = none := by rw [← cL]; exact I'.free
      obtain ⟨m, ns, _⟩ := I'.loc
      exact hRR D s3.heap.objs.size s' m H' I7 d' (by rw [← cL]; exact ns) (I3.fpOk (Nat.le_refl _) nC)
  exact codeAny_compStart_list body (T.self X.A 0 _ _ _ t4 body)
/-- the reading of a comprehension -/
def tLcN (te : TE) (c0 : Cl) (cs : List Cl) (own : List Nat) : TE := fun σ H Q => c0.wi σ H fun J H1 => ∀ D, H1 D = none → tLoopJ (tIn te D cs) J c0 (wipe σ own) (upd H1 D (.lst [])) fun H' => Q (.ref D) H'
variable {elt t i : Expr} {ifs : List Expr} {gs : List Comprehension} {scope : Scope} {own : List (Str × Nat)} {pos spos : Pos} {c0 : Cl} {cs : List Cl} {te : TE}
theorem pe_lcN (hc : X.calm = true) (hN : X.N.Nodup) (hi : PI X t i c0.wi) (ok : BlkOk X.N X.env.scope scope own)
    (hg : ∀ s H C cl fp, PG (X.blk s H scope (compEnvC scope cl C X.env) fp) t c0.g) (ht : ∀ s H C cl fp, PTs (X.blk s H scope (compEnvC scope cl C X.env) fp) ifs c0.tt)
    (hcs : ∀ s H C cl fp, ClsOk (X.blk s H scope (compEnvC scope cl C X.env) fp) gs cs) (dj : ∀ i ∈ cs.flatMap (·.vs), i ∉ c0.vs) (hv : ∀ i ∈ cs.flatMap (·.vs), i ∈ own.map (·.2))
    (he : ∀ s H C cl fp, PE (X.blk s H scope (compEnvC scope cl C X.env) fp) elt te) (hs : ∀ x, foldedSetIterable i X.env x = pure x) :
    PE X (.ListComp elt (⟨t, i, ifs, 0⟩ :: gs) scope pos) (tLcN te c0 cs (own.map (·.2))) := ⟨fun pins s σ H Q I h => by
  rw [eval_ListComp]
  refine lcN hc hN I hi ok hg ht hcs dj hv he hs h fun D C s' m H' I' q ns f => ⟨m, ns, fun h'' sb => ?_⟩
  exact ⟨.ref D, H', I'.turned (t' := s'.toks) (fun b o hb e => (sb.2 b hb).trans e) f.1 f.2.1 f.2.2.2.1 f.2.2.2.2.1 f.2.2.2.2.2, rfl, q⟩⟩
theorem ps_setLcN {k : Nat} {y : Str} {py : Pos} (hc : X.calm = true) (hN : X.N.Nodup) (hy : X.N[k]? = some y) (hyl : X.env.scope.names.lookup y = some .local) (hsw : swapsWith (.ListComp elt (⟨t, i, ifs, 0⟩ :: gs) scope pos) (some (.Name y py)) spos.line X.env = pure true)
    (hi : PI X t i c0.wi) (ok : BlkOk X.N X.env.scope scope own)
    (hg : ∀ s H C cl fp, PG (X.blk s H scope (compEnvC scope cl C X.env) fp) t c0.g) (ht : ∀ s H C cl fp, PTs (X.blk s H scope (compEnvC scope cl C X.env) fp) ifs c0.tt)
    (hcs : ∀ s H C cl fp, ClsOk (X.blk s H scope (compEnvC scope cl C X.env) fp) gs cs) (dj : ∀ i ∈ cs.flatMap (·.vs), i ∉ c0.vs) (hv : ∀ i ∈ cs.flatMap (·.vs), i ∈ own.map (·.2))
    (he : ∀ s H C cl fp, PE (X.blk s H scope (compEnvC scope cl C X.env) fp) elt te) (hs : ∀ x, foldedSetIterable i X.env x = pure x) :
    PS X (.Assign [.Name y py] (.ListComp elt (⟨t, i, ifs, 0⟩ :: gs) scope pos) spos) (tAsg (tLcN te c0 cs (own.map (·.2))) (gName k)) := ⟨fun pins s σ H Dd I h => by
  rw [exec_Assign_Name_used _ _ _ _ hsw]
  refine wpAny_bind (wpAny_standAt (wpAny_bind ?_))
  show wpAny _ X.A (do let _ ← comprehension (.ListComp elt (⟨t, i, ifs, 0⟩ :: gs) scope pos) scope X.env (firstIterPos (⟨t, i, ifs, 0⟩ :: gs) pos) (newList []) false (eval i X.env) (some (assign (.Name y py) X.env))) _ _ s
  have h : tLcN te c0 cs (own.map (·.2)) σ H (fun x H1 => gName k x σ H1 Dd.nx) := h
  refine wpAny_bind (thn (lcN (Q := fun x H1 => gName k x σ H1 Dd.nx) (Qf := fun _ s' => SP X pins Dd .next s') hc hN I hi ok hg ht hcs dj hv he hs h fun L C s' m H' I' q ns f => ?_) fun _ s' hq => wpAny_pure (wpAny_pure hq))
  refine wpAny_assign_Name (store_ok2 (v := V.ref L) I' hN hy (.inl hyl) rfl (fun s2 I2 ha => ?_) (.inr hyl))
  obtain ⟨a, sb, ha⟩ := ha
  have nC : C ≠ a := ha.elim (fun z => by rw [z]; exact f.2.1) fun z e => f.2.2.2.2.1 y a z e.symm
  exact ⟨m, ns.sameBut sb nC, fun h3 sb3 => ⟨_, H', I2.turned (t' := s2.toks) (fun b o hb e => (sb3.2 b hb).trans e) f.1 f.2.1 f.2.2.2.1 f.2.2.2.2.1 f.2.2.2.2.2, q⟩⟩⟩
end
end J
namespace J
open PySem PySem.Spec PyProof.Rows L2

/-! ### comprehensions over data -/
structure BP where
  s : Shared
  H : Hp
  C : Addr
  cl : List (Str × Addr)
  fp : List Addr
abbrev bpX (X : Cx) (scope : Scope) (b : BP) : Cx := X.blk b.s b.H scope (compEnvC scope b.cl b.C X.env) b.fp
def wI (X : Cx) (tgE iter : Expr) : TI := fun σ H R => ∃ wi, PI X tgE iter wi ∧ wi σ H R
theorem pi_w {X : Cx} {tgE iter : Expr} : PI X tgE iter (wI X tgE iter) := ⟨fun pins s σ H R I h => by
  obtain ⟨wi, p, q⟩ := h
  exact p.run pins s σ H R I q⟩
def JIt (X : Cx) (tgE iter : Expr) (ρ : Sl) (S : Store) (P : List D → Store → Prop) (B : Bad) : Prop := ∃ wi, PI X tgE iter wi ∧ JI X wi ρ S P B
theorem JIt.ji {X : Cx} {tgE iter : Expr} {ρ : Sl} {S : Store} {P : List D → Store → Prop} {B : Bad} (h : JIt X tgE iter ρ S P B) : JI X (wI X tgE iter) ρ S P B := fun u σ H R hW hS hE hR => by
  obtain ⟨wi, p, q⟩ := h
  exact ⟨wi, p, q u σ H R hW hS hE hR⟩
def wTs (X : Cx) (ifs : List Expr) : TT := fun σ H Q => ∀ pins s, Inv X pins σ H s → wpAny (model X.prog X.w) X.A (testsOf ifs X.env) (TP X pins σ Q) X.xe s
theorem pts_w {X : Cx} {ifs : List Expr} : PTs X ifs (wTs X ifs) := ⟨fun pins s _ _ _ I h => h pins s I⟩
def JTs (X : Cx) (ifs : List Expr) (ρ : Sl) (S : Store) (P : Bool → Store → Prop) (B : Bad) : Prop :=
  ∀ u σ H Q, Wish X B u H → StoR X.K u H S → EnvV X.K u H σ ρ → (∀ b H', GoodT X.K P u H b H' → Q b H') → wTs X ifs σ H Q
theorem jts_nil {X : Cx} {ρ : Sl} {S : Store} {P : Bool → Store → Prop} {B : Bad} (h : P true S) : JTs X [] ρ S P B := fun u σ H Q hW hS hE hQ pins s I => pts_nil.run pins s σ H Q I (hQ true H ⟨u, S, .refl _ _ _, hS, h⟩)
theorem jts_one {X : Cx} {c : Expr} {ρ : Sl} {S : Store} {P : Bool → Store → Prop} {B : Bad} (h : JT X c ρ S P B) : JTs X [c] ρ S P B := fun u σ H Q hW hS hE hQ pins s I => (pts_one pt_w).run pins s σ H Q I (h u σ H Q hW hS hE hQ)

structure DC where
  tgE : Expr
  iter : Expr
  ifs : List Expr
  tg : Tg
def DC.comp (c : DC) : Comprehension := ⟨c.tgE, c.iter, c.ifs, 0⟩
def DC.cl (X : Cx) (scope : Scope) (c : DC) : Cl := ⟨fun σ H R => ∀ b, wI (bpX X scope b) c.tgE c.iter σ H R, c.tg.g X.K, fun σ H Q => ∀ b, wTs (bpX X scope b) c.ifs σ H Q, c.tg.ixs⟩
def teB (X : Cx) (scope : Scope) (elt : Expr) : TE := fun σ H Q => ∀ b, wE (bpX X scope b) elt σ H Q
def wipeD (ρ : Sl) : List Nat → Sl
  | [] => ρ
  | v :: vs => (wipeD ρ vs).set v none
theorem wipeD_some {ρ : Sl} {i : Nat} {d : D} : ∀ {vs : List Nat}, (wipeD ρ vs)[i]? = some (some d) → ρ[i]? = some (some d) ∧ i ∉ vs
  | [], h => ⟨h, fun z => nomatch z⟩
  | v :: vs, h => by
    unfold wipeD at h
    by_cases hi : v = i
    · subst hi
      rw [List.getElem?_set] at h
      simp only [if_true] at h
      split at h <;> cases h
    · rw [List.getElem?_set_ne hi] at h
      obtain ⟨h1, h2⟩ := wipeD_some h
      exact ⟨h1, fun hm => (List.mem_cons.mp hm).elim (fun e => hi e.symm) h2⟩
theorem wipeD_length (ρ : Sl) : ∀ vs : List Nat, (wipeD ρ vs).length = ρ.length
  | [] => rfl
  | v :: vs => by unfold wipeD; rw [List.length_set, wipeD_length ρ vs]
theorem EnvV.wipe {K : PySem.W.Frag} {u : Mu} {H : Hp} {σ : L2.St} {ρ : Sl} (E : EnvV K u H σ ρ) (vs : List Nat) : EnvV K u H (L2.wipe σ vs) (wipeD ρ vs) := by
  refine ⟨by rw [wipeD_length, wipe_length]; exact E.len, fun i d e => ?_⟩
  obtain ⟨h1, h2⟩ := wipeD_some e
  obtain ⟨v, h3, h4⟩ := E.get i d h1
  exact ⟨v, (wipe_out h2).trans h3, h4⟩

/-- a clause's loop: what is left to take, the slots, the store, the list so far, what is wanted at the end -/
def LpP (X : Cx) (scope : Scope) (c : DC) (inn : Sl → Store → List D → (Store → List D → Prop) → Prop) (ρ : Sl) (k : Store → List D → Prop) : List D → Store → List D → Prop
  | [], S, acc => k S acc
  | d :: ds, S, acc => ∃ ρ1, c.tg.set d (wipeD ρ c.tg.ixs) = some ρ1 ∧ ∀ b, JTs (bpX X scope b) c.ifs ρ1 S (fun t S1 => (t = true → inn ρ1 S1 acc fun S2 acc2 => LpP X scope c inn ρ k ds S2 acc2) ∧ (t = false → LpP X scope c inn ρ k ds S1 acc)) B0
def InP (X : Cx) (scope : Scope) (elt : Expr) : List DC → Sl → Store → List D → (Store → List D → Prop) → Prop
  | [], ρ, S, acc, k => ∀ b, JE (bpX X scope b) elt ρ S (fun y S1 => acc.length < sizeLine ∧ k S1 (acc ++ [y])) B0
  | c :: cs, ρ, S, acc, k => ∀ b, JIt (bpX X scope b) c.tgE c.iter ρ S (fun items S1 => LpP X scope c (InP X scope elt cs) ρ k items S1 acc) B0

section
variable {X : Cx} {scope : Scope} {elt : Expr}
/-- the list at A grows, all else goes on -/
structure Mid (K : PySem.W.Frag) (u1 : Mu) (H1 : Hp) (A : Addr) (u : Mu) (H : Hp) (S : Store) (acc : List D) : Prop where
  adv : AdvF u1.m.length u1 H1 u H
  fr : u.fr = A :: u1.fr
  frk : ∀ a, a ∈ u1.fr → H a = H1 a
  sto : StoR K u H S
  at_ : ∃ vs, H A = some (.lst vs) ∧ RpA K u H vs acc
theorem Mid.go {K : PySem.W.Frag} {u1 u u' : Mu} {H1 H H' : Hp} {A : Addr} {S S' : Store} {acc : List D} (m : Mid K u1 H1 A u H S acc) (a : Adv u.m.length u H u' H') (hS : StoR K u' H' S') : Mid K u1 H1 A u' H' S' acc := by
  obtain ⟨vs, e, r⟩ := m.at_
  refine ⟨m.adv.trans a.toAdvF m.adv.len, a.fr.trans m.fr, fun x hx => (a.frk x (by rw [m.fr]; exact List.mem_cons_of_mem _ hx)).trans (m.frk x hx), hS, vs, ?_, r.go a⟩
  rw [a.frk A (by rw [m.fr]; exact List.mem_cons_self)]; exact e
/-- a framed thing is written -/
theorem advF_framed {u : Mu} {H : Hp} {A : Addr} {o : HO} (n : Nat) (hA : A ∈ u.fr) : AdvF n u H u (upd H A o) :=
  ⟨fun _ _ => rfl, fun k a e => .inl (List.mem_of_getElem? e), fun a o' e ho => (upd_ne (fun z : a = A => ho.2 (by rw [z]; exact hA))).trans e, fun a o' e => by
    by_cases z : a = A
    · subst z; exact ⟨o, upd_same⟩
    · exact ⟨o', by rw [upd_ne z]; exact e⟩, fun _ h => .inl h⟩
theorem CellR.advF {K : PySem.W.Frag} {u u' : Mu} {H H' : Hp} {a : Addr} {c : Cell} (r : CellR K u H a c) (A : AdvF u.m.length u H u' H') (ha : H' a = H a) : CellR K u' H' a c := by
  cases c with
  | lst ds => obtain ⟨vs, e, q⟩ := r; exact ⟨vs, ha.trans e, q.adv (Nat.le_refl _) A⟩
  | dK ds => obtain ⟨vs, e, e2, q⟩ := r; exact ⟨vs, ha.trans e, e2, q.adv (Nat.le_refl _) A⟩
  | dT ds => obtain ⟨vs, e, e2, q⟩ := r; exact ⟨vs, ha.trans e, e2, q.adv (Nat.le_refl _) A⟩
  | gone => trivial
theorem StoR.framed {K : PySem.W.Frag} {u : Mu} {H : Hp} {A : Addr} {o : HO} {S : Store} (hS : StoR K u H S) (hA : A ∈ u.fr) : StoR K u (upd H A o) S where
  len := hS.len
  inj := hS.inj
  trk := fun a ha => by
    obtain ⟨x, e⟩ := hS.trk a ha
    exact (advF_framed (H := H) (o := o) 0 hA).mono a x e
  trf := fun a ha => by
    obtain ⟨⟨x, e⟩, h⟩ := hS.trf a ha
    exact ⟨(advF_framed (H := H) (o := o) 0 hA).mono a x e, h⟩
  sto := fun k c e => by
    rcases hS.sto k c e with h | ⟨a, ha, r⟩
    · exact .inl h
    · exact .inr ⟨a, ha, r.advF (advF_framed _ hA) (upd_ne (fun z : a = A => (hS.trf A hA).2 (by rw [← z]; exact List.mem_of_getElem? ha)))⟩
theorem Mid.push {K : PySem.W.Frag} {u1 u : Mu} {H1 H : Hp} {A : Addr} {S : Store} {acc : List D} {y : V} {d : D} {vs : List V} (nA : H1 A = none) (m : Mid K u1 H1 A u H S acc) (e : H A = some (.lst vs)) (r : RpA K u H vs acc) (ry : Rp K u H y d) : Mid K u1 H1 A u (upd H A (.lst (vs ++ [y]))) S (acc ++ [d]) := by
  have hA : A ∈ u.fr := by rw [m.fr]; exact List.mem_cons_self
  have F := advF_framed (H := H) (o := .lst (vs ++ [y])) u.m.length hA
  refine ⟨m.adv.trans F m.adv.len, m.fr, fun x hx => ?_, m.sto.framed hA, vs ++ [y], upd_same, ?_⟩
  · have hxA : x ≠ A := fun z => by
      subst z
      have := m.frk x hx
      rw [e, nA] at this; cases this
    rw [upd_ne hxA]; exact m.frk x hx
  · exact (r.adv (Nat.le_refl _) F).append (.cons (ry.adv (Nat.le_refl _) F) .nil)

def InOk (X : Cx) (scope : Scope) (elt : Expr) (u1 : Mu) (H1 : Hp) (A : Addr) (cs : List DC) : Prop := ∀ (ρ : Sl) (S : Store) (acc : List D) (k : Store → List D → Prop), InP X scope elt cs ρ S acc k → ∀ u σ H done, Mid X.K u1 H1 A u H S acc → EnvV X.K u H σ ρ →
    (∀ u' H' S' acc', Mid X.K u1 H1 A u' H' S' acc' → AdvF u.m.length u H u' H' → k S' acc' → done H') → tIn (teB X scope elt) A (cs.map (DC.cl X scope)) σ H done
theorem wipe_idem (τ : L2.St) (ws : List Nat) : ∀ vs : List Nat, (∀ i ∈ vs, i ∈ ws) → L2.wipe (L2.wipe τ vs) ws = L2.wipe τ ws
  | [], _ => rfl
  | v :: vs, hm => by
    show L2.wipe ((L2.wipe τ vs).set v none) ws = _
    rw [wipe_set (hm v List.mem_cons_self)]
    exact wipe_idem τ ws vs fun i hi => hm i (List.mem_cons_of_mem _ hi)
theorem tLoop_ok {u1 uf us : Mu} {H1 Hf Hs : Hp} {A : Addr} {c : DC} {cs : List DC} {ρ : Sl} {k : Store → List D → Prop} {J : It} {items : List D} {σ : L2.St} {Ss : Store} {acc : List D} {done : Hp → Prop} (nA : H1 A = none) (inn : InOk X scope elt u1 H1 A cs)
    (F : Feeds X.K J uf Hf items) (hE : EnvV X.K uf Hf σ ρ) (ms : Mid X.K u1 H1 A us Hs Ss acc) (As : AdvF uf.m.length uf Hf us Hs) (h : LpP X scope c (InP X scope elt cs) ρ k items Ss acc)
    (hd : ∀ u' H' S' acc', Mid X.K u1 H1 A u' H' S' acc' → AdvF uf.m.length uf Hf u' H' → k S' acc' → done H') : tLoopJ (tIn (teB X scope elt) A (cs.map (DC.cl X scope))) J (c.cl X scope) σ Hs done := by
  refine ⟨fun i n H' => n = items.length - i ∧ i ≤ items.length ∧ ∃ u' S' acc', Mid X.K u1 H1 A u' H' S' acc' ∧ AdvF uf.m.length uf Hf u' H' ∧ LpP X scope c (InP X scope elt cs) ρ k (items.drop i) S' acc', ⟨_, rfl, Nat.zero_le _, us, Ss, acc, ms, As, h⟩, ?_⟩
  rintro i n H' ⟨rfl, hil, u', S', acc', m', A', h'⟩
  by_cases hlt : i < items.length
  · right
    have ed : items.drop i = items[i] :: items.drop (i + 1) := List.drop_eq_getElem_cons hlt
    rw [ed] at h'
    obtain ⟨ρ1, e1, ht⟩ := h'
    refine ⟨F.go u' H' i _ A' (List.getElem?_eq_getElem hlt), fun H2 => ∃ u2 S2 acc2, Mid X.K u1 H1 A u2 H2 S2 acc2 ∧ AdvF uf.m.length uf Hf u2 H2 ∧ LpP X scope c (InP X scope elt cs) ρ k (items.drop (i + 1)) S2 acc2,
      fun H2 q => ⟨items.length - (i + 1), by omega, rfl, hlt, q⟩, fun x H2 y => ?_⟩
    obtain ⟨A2, hS2, r2⟩ := F.yld u' H' S' i _ x H2 A' m'.sto (List.getElem?_eq_getElem hlt) y
    have m2 := m'.go A2 hS2
    have A24 : AdvF uf.m.length uf Hf u' H2 := A'.trans A2.toAdvF A'.len
    refine Tg.ok e1 r2 ((hE.advF A24).wipe c.tg.ixs) fun σ3 hE3 hw => ⟨(hw c.tg.ixs fun _ z => z).trans (wipe_idem σ c.tg.ixs c.tg.ixs fun _ z => z), fun b' => ht b' u' σ3 H2 _ Wish.zero hS2 hE3 fun t H3 ⟨u3, S3, A3, hS3, q1, q2⟩ => ?_⟩
    have m3 := m2.go A3 hS3
    have A34 : AdvF uf.m.length uf Hf u3 H3 := A24.trans A3.toAdvF A24.len
    cases t with
    | false => exact iteF ⟨u3, S3, acc', m3, A34, q2 rfl⟩
    | true => exact iteT (inn ρ1 S3 acc' _ (q1 rfl) u3 σ3 H3 _ m3 (hE3.adv A3) fun u5 H5 S5 acc5 m5 A5 h5 => ⟨u5, S5, acc5, m5, A34.trans A5 A34.len, h5⟩)
  · left
    have ei : i = items.length := by omega
    subst ei
    rw [List.drop_length] at h'
    exact ⟨F.stop u' H' A', hd u' H' S' acc' m' A' h'⟩
theorem tIn_ok {u1 : Mu} {H1 : Hp} {A : Addr} (nA : H1 A = none) : ∀ cs : List DC, InOk X scope elt u1 H1 A cs
  | [] => fun ρ S acc k h u σ H done m hE hd b => h b u σ H _ Wish.zero m.sto hE fun y H4 ⟨u4, d4, S4, A4, hS4, r4, hl, h4⟩ => by
    have m4 := m.go A4 hS4
    obtain ⟨vs, e, r⟩ := m4.at_
    refine ⟨vs, e, by rw [r.length]; exact hl, hd u4 _ S4 _ (m4.push nA e r r4) ?_ h4⟩
    exact A4.toAdvF.trans (advF_framed (o := .lst (vs ++ [y])) u4.m.length (by rw [m4.fr]; exact List.mem_cons_self)) A4.len
  | c :: cs => fun ρ S acc k h u σ H done m hE hd b => (h b).ji u σ H _ Wish.zero m.sto hE fun J H4 u4 items S4 A4 hS4 F h4 =>
    tLoop_ok nA (tIn_ok nA cs) F (hE.adv A4) (m.go A4 hS4) (.refl _ _ _) h4 fun u' H' S' acc' m' A' k' => hd u' H' S' acc' m' (A4.toAdvF.trans A' A4.len) k'

/-! ### the rules -/
def Mu.in (u : Mu) (A : Addr) : Mu := ⟨u.m, A :: u.fr⟩
theorem mid_start {K : PySem.W.Frag} {u : Mu} {H : Hp} {S : Store} {A : Addr} (hS : StoR K u H S) (nA : H A = none) : Mid K u H A (u.in A) (upd H A (.lst [])) S [] := by
  have F : AdvF u.m.length u H (u.in A) (upd H A (.lst [])) := ⟨fun _ _ => rfl, fun k a e => .inl (List.mem_of_getElem? e), fun a o e _ => (upd_ne (ne_of_none e nA)).trans e, fun a o e => ⟨o, (upd_ne (ne_of_none e nA)).trans e⟩, fun a h => (List.mem_cons.mp h).elim (fun z => .inr (by rw [z]; exact nA)) .inl⟩
  have nt : ∀ a, some a ∈ u.m → a ≠ A := fun a ha z => by
    obtain ⟨o, e⟩ := hS.trk a ha
    rw [z, nA] at e; cases e
  refine ⟨F, rfl, fun a ha => ?_, ⟨hS.len, hS.inj, fun a ha => ?_, fun a ha => ?_, fun k c e => ?_⟩, [], upd_same, .nil⟩
  · obtain ⟨⟨o, e⟩, _⟩ := hS.trf a ha
    exact upd_ne (ne_of_none e nA)
  · obtain ⟨o, e⟩ := hS.trk a ha
    exact ⟨o, (upd_ne (ne_of_none e nA)).trans e⟩
  · rcases List.mem_cons.mp ha with z | z
    · subst z; exact ⟨⟨_, upd_same⟩, fun hm => nt a hm rfl⟩
    · obtain ⟨⟨o, e⟩, h⟩ := hS.trf a z
      exact ⟨⟨o, (upd_ne (ne_of_none e nA)).trans e⟩, h⟩
  · rcases hS.sto k c e with h | ⟨a, ha, r⟩
    · exact .inl h
    · exact .inr ⟨a, ha, r.advF F (upd_ne (nt a (List.mem_of_getElem? ha)))⟩
/-- out of the frame -/
theorem unframe {K : PySem.W.Frag} {u1 u : Mu} {H1 H : Hp} {A : Addr} {S : Store} {acc : List D} (nA : H1 A = none) (m : Mid K u1 H1 A u H S acc) : Adv u1.m.length u1 H1 ⟨u.m, u1.fr⟩ H ∧ StoR K ⟨u.m, u1.fr⟩ H S ∧ Rp K ⟨u.m, u1.fr⟩ H (.ref A) (.lst acc) := by
  have hA : A ∈ u.fr := by rw [m.fr]; exact List.mem_cons_self
  have sub : ∀ a, a ∈ u1.fr → a ∈ u.fr := fun a h => by rw [m.fr]; exact List.mem_cons_of_mem _ h
  have F : AdvF u.m.length u H ⟨u.m, u1.fr⟩ H := ⟨fun _ _ => rfl, fun k a e => .inl (List.mem_of_getElem? e), fun _ _ e _ => e, fun _ o e => ⟨o, e⟩, fun a h => .inl (sub a h)⟩
  obtain ⟨vs, e, r⟩ := m.at_
  refine ⟨⟨⟨m.adv.pre, m.adv.new, m.adv.keep, m.adv.mono, fun a h => .inl h⟩, rfl, m.frk⟩, ⟨m.sto.len, m.sto.inj, m.sto.trk, fun a h => m.sto.trf a (sub a h), fun k c ec => ?_⟩, .lst ⟨e, (m.sto.trf A hA).2, fun z => ?_⟩ (r.adv (Nat.le_refl _) F)⟩
  · rcases m.sto.sto k c ec with h | ⟨a, ha, q⟩
    · exact .inl h
    · exact .inr ⟨a, ha, q.advF F rfl⟩
  · have q := m.frk A z
    rw [e, nA] at q; cases q
theorem unframeP {K : PySem.W.Frag} {u1 u : Mu} {H1 H : Hp} {A : Addr} {S : Store} {acc : List D} (nA : H1 A = none) (m : Mid K u1 H1 A u H S acc) : Adv u1.m.length u1 H1 ⟨u.m ++ [some A], u1.fr⟩ H ∧ StoR K ⟨u.m ++ [some A], u1.fr⟩ H (S ++ [.lst acc]) ∧ Rp K ⟨u.m ++ [some A], u1.fr⟩ H (.ref A) (.ptr S.length) := by
  have hA : A ∈ u.fr := by rw [m.fr]; exact List.mem_cons_self
  have sub : ∀ a, a ∈ u1.fr → a ∈ u.fr := fun a h => by rw [m.fr]; exact List.mem_cons_of_mem _ h
  have nmA := (m.sto.trf A hA).2
  obtain ⟨vs, e, r⟩ := m.at_
  have mem : ∀ a, some a ∈ u.m ++ [some A] → some a ∈ u.m ∨ a = A := fun a h => (List.mem_append.mp h).imp id fun z => by simpa using z
  have T : Tr u.m.length u H ⟨u.m ++ [some A], u1.fr⟩ H := ⟨fun k hk => List.getElem?_append_left hk, fun a o ea ho => ⟨ea, fun hm => (mem a hm).elim ho.1 fun z => ho.2 (by rw [z]; exact hA), fun hm => ho.2 (sub a hm)⟩⟩
  have at0 : ∀ k : Nat, k < u.m.length → (u.m ++ [some A])[k]? = u.m[k]? := fun k hk => List.getElem?_append_left hk
  have atL : (u.m ++ [some A])[u.m.length]? = some (some A) := by rw [List.getElem?_append_right (Nat.le_refl _), Nat.sub_self]; rfl
  have cut : ∀ (k : Nat) a, (u.m ++ [some A])[k]? = some (some a) → (k < u.m.length ∧ u.m[k]? = some (some a)) ∨ (k = u.m.length ∧ a = A) := fun k a ek => by
    rcases Nat.lt_trichotomy k u.m.length with h | h | h
    · exact .inl ⟨h, by rw [at0 k h] at ek; exact ek⟩
    · subst h; rw [atL] at ek; cases ek; exact .inr ⟨rfl, rfl⟩
    · have := (List.getElem?_eq_some_iff.mp ek).1
      rw [List.length_append] at this
      have h1 : ([some A] : List (Option Addr)).length = 1 := rfl
      omega
  refine ⟨⟨⟨fun k hk => ?_, fun k a ek => ?_, m.adv.keep, m.adv.mono, fun a h => .inl h⟩, rfl, m.frk⟩, ⟨by rw [List.length_append, List.length_append, m.sto.len]; rfl, fun i j a hi hj => ?_, fun a ha => ?_, fun a ha => ⟨(m.sto.trf a (sub a ha)).1, fun hm => ?_⟩, fun k c ec => ?_⟩, .ptr ?_⟩
  · exact (at0 k (Nat.lt_of_lt_of_le hk m.adv.len)).trans (m.adv.pre k hk)
  · rcases cut k a ek with ⟨_, h⟩ | ⟨_, h⟩
    · exact m.adv.new k a h
    · exact .inr (by rw [h]; exact nA)
  · rcases cut i a hi with ⟨_, h1⟩ | ⟨h1, e1⟩ <;> rcases cut j a hj with ⟨_, h2⟩ | ⟨h2, e2⟩
    · exact m.sto.inj i j a h1 h2
    · subst e2; exact absurd (List.mem_of_getElem? h1) nmA
    · subst e1; exact absurd (List.mem_of_getElem? h2) nmA
    · rw [h1, h2]
  · rcases mem a ha with h | h
    · exact m.sto.trk a h
    · exact ⟨_, by rw [h]; exact e⟩
  · rcases mem a hm with h | h
    · exact (m.sto.trf a (sub a ha)).2 h
    · subst h
      have q := m.frk a ha
      rw [e, nA] at q; cases q
  · rcases Nat.lt_or_ge k S.length with h | h
    · rw [List.getElem?_append_left h] at ec
      rcases m.sto.sto k c ec with h1 | ⟨a, ha, q⟩
      · exact .inl h1
      · exact .inr ⟨a, (at0 k (by rw [m.sto.len]; exact h)).trans ha, q.mv (Nat.le_refl _) T rfl⟩
    · rw [List.getElem?_append_right h] at ec
      have h2 : k - S.length = 0 := by
        have := (List.getElem?_eq_some_iff.mp ec).1
        simp at this; omega
      rw [h2] at ec
      have : c = .lst acc := by simpa using ec.symm
      subst this
      have hk : k = u.m.length := by rw [m.sto.len]; omega
      exact .inr ⟨A, by rw [hk]; exact atL, vs, e, r.mv (Nat.le_refl _) T⟩
  · rw [← m.sto.len]; exact atL

/-- what must be known of the further clauses -/
def DcsOk (X : Cx) (scope : Scope) : List DC → Prop
  | [] => True
  | c :: cs => (∀ b, PG (bpX X scope b) c.tgE (c.tg.g X.K)) ∧ (∀ env x, foldedSetIterable c.iter env x = pure x) ∧ (∀ i ∈ cs.flatMap (·.tg.ixs), i ∉ c.tg.ixs) ∧ DcsOk X scope cs
theorem vs_map (cs : List DC) : (cs.map (DC.cl X scope)).flatMap (·.vs) = cs.flatMap (·.tg.ixs) := by rw [List.flatMap_map]; rfl
theorem DcsOk.cls (b : BP) : ∀ cs : List DC, DcsOk X scope cs → ClsOk (bpX X scope b) (cs.map DC.comp) (cs.map (DC.cl X scope))
  | [], _ => .nil
  | c :: cs, h => .cons ⟨rfl, h.2.1, ⟨fun pins s σ H R I q => pi_w.run pins s σ H R I (q b)⟩, h.1 b, ⟨fun pins s σ H Q I q => pts_w.run pins s σ H Q I (q b)⟩⟩ (by rw [vs_map]; exact h.2.2.1) (DcsOk.cls b cs h.2.2.2)
variable {S : Store} {ρ : Sl} {P : D → Store → Prop} {B : Bad} {pos spos : Pos} {own : List (Str × Nat)}
abbrev EndL (P : D → Store → Prop) : Store → List D → Prop := fun S acc => P (.lst acc) S
abbrev EndP (P : D → Store → Prop) : Store → List D → Prop := fun S acc => P (.ptr S.length) (S ++ [.lst acc])
theorem lc_read {c0 : DC} {cs : List DC} {k : Store → List D → Prop} {u : Mu} {σ : L2.St} {H : Hp} {Q : VK} (hv : ∀ i ∈ (c0 :: cs).flatMap (·.tg.ixs), i ∈ own.map (·.2)) (hW : Wish X B u H) (hS : StoR X.K u H S) (hE : EnvV X.K u H σ ρ)
    (h : JIt X c0.tgE c0.iter ρ S (fun items S1 => LpP X scope c0 (InP X scope elt cs) (wipeD ρ (own.map (·.2))) k items S1 []) B)
    (hQ : ∀ u1 H1 A u2 H2 S2 acc, Adv u.m.length u H u1 H1 → H1 A = none → Mid X.K u1 H1 A u2 H2 S2 acc → k S2 acc → Q (.ref A) H2) :
    tLcN (teB X scope elt) ⟨wI X c0.tgE c0.iter, c0.tg.g X.K, fun σ H Q => ∀ b, wTs (bpX X scope b) c0.ifs σ H Q, c0.tg.ixs⟩ (cs.map (DC.cl X scope)) (own.map (·.2)) σ H Q := by
  refine h.ji u σ H _ hW hS hE fun J H1 u1 items S1 A1 hS1 F h1 D nD => ?_
  have m0 := mid_start hS1 nD
  exact tLoop_ok (c := c0) nD (tIn_ok nD cs) F ((hE.adv A1).wipe _) m0 m0.adv h1 fun u' H' S' acc' m' A' k' => hQ u1 H1 D u' H' S' acc' A1 nD m' k'
theorem je_lcG {c0 : DC} {cs : List DC} {k : Store → List D → Prop} (hk : k = EndL P ∨ k = EndP P) (hc : X.calm = true) (hN : X.N.Nodup) (ok : BlkOk X.N X.env.scope scope own) (hg : ∀ b, PG (bpX X scope b) c0.tgE (c0.tg.g X.K)) (hcs : DcsOk X scope cs) (dj : ∀ i ∈ cs.flatMap (·.tg.ixs), i ∉ c0.tg.ixs)
    (hv : ∀ i ∈ (c0 :: cs).flatMap (·.tg.ixs), i ∈ own.map (·.2)) (hs : ∀ x, foldedSetIterable c0.iter X.env x = pure x)
    (h : JIt X c0.tgE c0.iter ρ S (fun items S1 => LpP X scope c0 (InP X scope elt cs) (wipeD ρ (own.map (·.2))) k items S1 []) B) :
    JE X (.ListComp elt (c0.comp :: cs.map DC.comp) scope pos) ρ S P B :=
  je_of (pe_lcN (c0 := ⟨wI X c0.tgE c0.iter, c0.tg.g X.K, fun σ H Q => ∀ b, wTs (bpX X scope b) c0.ifs σ H Q, c0.tg.ixs⟩) (cs := cs.map (DC.cl X scope)) (te := teB X scope elt) hc hN pi_w ok (fun s H C cl fp => hg ⟨s, H, C, cl, fp⟩) (fun s H C cl fp => ⟨fun pins s' σ H' Q I q => pts_w.run pins s' σ H' Q I (q ⟨s, H, C, cl, fp⟩)⟩)
      (fun s H C cl fp => hcs.cls ⟨s, H, C, cl, fp⟩ cs) (by rw [vs_map]; exact dj) (by rw [vs_map]; exact fun i hi => hv i (by rw [List.flatMap_cons]; exact List.mem_append_right _ hi)) (fun s H C cl fp => ⟨fun pins s' σ H' Q I q => q ⟨s, H, C, cl, fp⟩ pins s' I⟩) hs)
    fun u σ H Q hW hS hE hQ => lc_read hv hW hS hE h fun u1 H1 A u2 H2 S2 acc A1 nA m q => by
      rcases hk with rfl | rfl
      · obtain ⟨a, b, c⟩ := unframe nA m
        exact hQ _ _ ⟨_, _, S2, A1.tr a, b, c, q⟩
      · obtain ⟨a, b, c⟩ := unframeP nA m
        exact hQ _ _ ⟨_, _, _, A1.tr a, b, c, q⟩
theorem js_setLcG {n : Nat} {i : Nat} {y : Str} {py : Pos} {PO : Out → Prop} {c0 : DC} {cs : List DC} {k : Store → List D → Prop} (hk : k = EndL (fun d S => PO (.nx (ρ.set i (some d)) S)) ∨ k = EndP (fun d S => PO (.nx (ρ.set i (some d)) S))) (hc : X.calm = true) (hN : X.N.Nodup) (hy : X.N[i]? = some y) (hyl : X.env.scope.names.lookup y = some .local)
    (hsw : swapsWith (.ListComp elt (c0.comp :: cs.map DC.comp) scope pos) (some (.Name y py)) spos.line X.env = pure true) (ok : BlkOk X.N X.env.scope scope own) (hg : ∀ b, PG (bpX X scope b) c0.tgE (c0.tg.g X.K)) (hcs : DcsOk X scope cs) (dj : ∀ i ∈ cs.flatMap (·.tg.ixs), i ∉ c0.tg.ixs)
    (hv : ∀ i ∈ (c0 :: cs).flatMap (·.tg.ixs), i ∈ own.map (·.2)) (hs : ∀ x, foldedSetIterable c0.iter X.env x = pure x)
    (h : JIt X c0.tgE c0.iter ρ S (fun items S1 => LpP X scope c0 (InP X scope elt cs) (wipeD ρ (own.map (·.2))) k items S1 []) B) :
    JS n X (.Assign [.Name y py] (.ListComp elt (c0.comp :: cs.map DC.comp) scope pos) spos) ρ S PO B :=
  js_of (ps_setLcN (c0 := ⟨wI X c0.tgE c0.iter, c0.tg.g X.K, fun σ H Q => ∀ b, wTs (bpX X scope b) c0.ifs σ H Q, c0.tg.ixs⟩) (cs := cs.map (DC.cl X scope)) (te := teB X scope elt) hc hN hy hyl hsw pi_w ok (fun s H C cl fp => hg ⟨s, H, C, cl, fp⟩) (fun s H C cl fp => ⟨fun pins s' σ H' Q I q => pts_w.run pins s' σ H' Q I (q ⟨s, H, C, cl, fp⟩)⟩)
      (fun s H C cl fp => hcs.cls ⟨s, H, C, cl, fp⟩ cs) (by rw [vs_map]; exact dj) (by rw [vs_map]; exact fun i hi => hv i (by rw [List.flatMap_cons]; exact List.mem_append_right _ hi)) (fun s H C cl fp => ⟨fun pins s' σ H' Q I q => q ⟨s, H, C, cl, fp⟩ pins s' I⟩) hs)
    fun u σ H Dd hn hW hS hE hP => lc_read hv (hW.wish (hS.le hn)) hS hE h fun u1 H1 A u2 H2 S2 acc A1 nA m q => by
      rcases hk with rfl | rfl
      · obtain ⟨a, b, c⟩ := unframe nA m
        exact hP.nx _ _ (GoodE.of hn hS (A1.tr a) b ((hE.adv (A1.tr a)).set c) q)
      · obtain ⟨a, b, c⟩ := unframeP nA m
        exact hP.nx _ _ (GoodE.of hn hS (A1.tr a) b ((hE.adv (A1.tr a)).set c) q)
end
end J
namespace J
open PySem PySem.Spec PyProof.Rows L2

/-! ### what the operators do to data -/
/-- a thing of the store by what it holds -/
def res (S : Store) : D → D
  | .ptr k => match S[k]? with
    | some (.lst ds) => .lst ds
    | _ => .ptr k
  | d => d
theorem res_ptr {S : Store} {k : Nat} {d : D} (e : res S (.ptr k) = d) : (∃ ds, S[k]? = some (.lst ds) ∧ d = .lst ds) ∨ d = .ptr k := by
  simp only [res] at e
  cases q : S[k]? with
  | none => rw [q] at e; exact .inr e.symm
  | some c =>
    rw [q] at e
    cases c with
    | lst ds => exact .inl ⟨ds, rfl, e.symm⟩
    | _ => exact .inr e.symm
section
variable {K : PySem.W.Frag} {u : Mu} {H : Hp} {S : Store} {v : V} {d : D}
/-- a list, frozen or of the store -/
theorem res_lst {ds : List D} (hS : StoR K u H S) (r : Rp K u H v d) (e : res S d = .lst ds) : ∃ a vs, v = .ref a ∧ H a = some (.lst vs) ∧ RpA K u H vs ds := by
  cases r with
  | lst h ra => cases e; exact ⟨_, _, rfl, h.1, ra⟩
  | ptr hk =>
    rcases res_ptr e with ⟨ds', hs, z⟩ | z
    · cases z
      rcases hS.sto _ _ hs with z | ⟨a', ha', vs, h1, h2⟩
      · cases z
      · rw [hk] at ha'; cases ha'
        exact ⟨_, _, rfl, h1, h2⟩
    · cases z
  | _ => cases e
theorem res_tup {ds : List D} (r : Rp K u H v d) (e : res S d = .tup ds) : ∃ a vs, v = .ref a ∧ SqT K H a vs ∧ RpA K u H vs ds := by
  cases r with
  | tup h ra => cases e; exact ⟨_, _, rfl, h.sq, ra⟩
  | ptr hk => rcases res_ptr e with ⟨_, _, z⟩ | z <;> cases z
  | _ => cases e
theorem res_int {i : Int} (e : res S d = .int i) : d = .int i := by
  cases d with
  | ptr k => rcases res_ptr e with ⟨_, _, z⟩ | z <;> cases z
  | _ => exact e
theorem res_str {x : Str} (e : res S d = .str x) : d = .str x := by
  cases d with
  | ptr k => rcases res_ptr e with ⟨_, _, z⟩ | z <;> cases z
  | _ => exact e
end
def flatD : D → Bool
  | .non => true
  | .bl _ => true
  | .int _ => true
  | .str _ => true
  | _ => false
def eqF : D → D → Bool
  | .non, .non => true
  | .bl a, .bl b => a == b
  | .bl a, .int b => (if a then 1 else 0) == b
  | .int a, .bl b => a == (if b then 1 else 0)
  | .int a, .int b => a == b
  | .str a, .str b => a == b
  | _, _ => false
theorem flat_of {K : PySem.W.Frag} {u : Mu} {H : Hp} {v : V} {d : D} (r : Rp K u H v d) (h : flatD d = true) : flatV v = true := by
  cases r <;> first | rfl | cases h
theorem flats_of {K : PySem.W.Frag} {u : Mu} {H : Hp} : ∀ {vs : List V} {ds : List D}, RpA K u H vs ds → ds.all flatD = true → vs.all flatV = true
  | _, _, .nil, _ => rfl
  | _, _, .cons r t, h => by
    rw [List.all_cons, Bool.and_eq_true] at h ⊢
    exact ⟨flat_of r h.1, flats_of t h.2⟩
theorem eqF_of {K : PySem.W.Frag} {u : Mu} {H : Hp} {v w : V} {d e : D} (r : Rp K u H v d) (q : Rp K u H w e) (h : flatD d = true) (h' : flatD e = true) : eqV v w = eqF d e := by
  cases r <;> cases h <;> cases q <;> cases h' <;> rfl
theorem anyF_of {K : PySem.W.Frag} {u : Mu} {H : Hp} {w : V} {e : D} (q : Rp K u H w e) (h' : flatD e = true) : ∀ {vs : List V} {ds : List D}, RpA K u H vs ds → ds.all flatD = true → inV w vs = ds.any fun d => eqF d e
  | _, _, .nil, _ => rfl
  | _, _, .cons r t, h => by
    rw [List.all_cons, Bool.and_eq_true] at h
    show (eqV _ w || inV w _) = _
    rw [eqF_of r q h.1 h', anyF_of q h' t h.2]; rfl

/-! pure data, for == -/
mutual
def D.py : D → PyData
  | .non => .none
  | .bl b => .bool b
  | .int i => .int i
  | .str x => .str x
  | .tup ds => .tuple (pyA ds)
  | .lst ds => .list (pyA ds)
  | .ptr _ => .none
  | .val _ => .none
def pyA : List D → List PyData
  | [] => []
  | d :: ds => d.py :: pyA ds
end
mutual
def D.pure : D → Bool
  | .tup ds => pureA ds
  | .lst ds => pureA ds
  | .ptr _ => false
  | .val _ => false
  | _ => true
def pureA : List D → Bool
  | [] => true
  | d :: ds => d.pure && pureA ds
end
mutual
theorem dp_of {K : PySem.W.Frag} {u : Mu} {H : Hp} : ∀ {d : D} {v : V}, Rp K u H v d → d.pure = true → Dp K H v d.py
  | _, _, .non, _ => .non
  | _, _, .bl b, _ => .bl b
  | _, _, .int i, _ => .int i
  | _, _, .str x, _ => .str x
  | _, _, .tup h r, p => .tup h.sq (dpA_of r p)
  | _, _, .lst h r, p => .lst h.sq (dpA_of r p)
  | _, _, .ptr _, p => by simp [D.pure] at p
  | _, _, .val _, p => by simp [D.pure] at p
theorem dpA_of {K : PySem.W.Frag} {u : Mu} {H : Hp} : ∀ {ds : List D} {vs : List V}, RpA K u H vs ds → pureA ds = true → DpAll K H vs (pyA ds)
  | _, _, .nil, _ => .nil
  | _, _, .cons r t, p => by
    simp only [pureA, Bool.and_eq_true] at p
    exact .cons (dp_of r p.1) (dpA_of t p.2)
end
def eqOk (d : D) : Prop := d.pure = true ∧ SeqAt.shaped d.py = true
theorem dp_res {K : PySem.W.Frag} {u : Mu} {H : Hp} {S : Store} {v : V} {d : D} (hS : StoR K u H S) (r : Rp K u H v d) (p : (res S d).pure = true) : Dp K H v (res S d).py := by
  cases r with
  | ptr hk =>
    rename_i k a
    rcases res_ptr (S := S) (k := k) rfl with ⟨ds, hs, z⟩ | z
    · rw [z] at p ⊢
      rcases hS.sto k _ hs with z | ⟨a', ha', vs, h1, h2⟩
      · cases z
      · rw [hk] at ha'; cases ha'
        exact .lst (.inl (.inl h1)) (dpA_of h2 p)
    · rw [z] at p; simp [D.pure] at p
  | non => exact dp_of (K := K) (u := u) .non p
  | bl b => exact dp_of (K := K) (u := u) (.bl b) p
  | int i => exact dp_of (K := K) (u := u) (.int i) p
  | str x => exact dp_of (K := K) (u := u) (.str x) p
  | tup h ra => exact dp_of (.tup h ra) p
  | lst h ra => exact dp_of (.lst h ra) p
  | val v => exact dp_of (K := K) (u := u) (.val v) p
abbrev eqB (d e : D) : Bool := PyData.eqv d.py e.py

section
variable {X : Cx} {a b c e : Expr} {es : List Expr} {ρ : Sl} {S : Store} {P : D → Store → Prop} {PT : Bool → Store → Prop} {B : Bad} {pos p : Pos}
/-- x == y, x != y -/
def EqW (S : Store) (d1 d2 : D) (k : Bool → Prop) : Prop := eqOk (res S d1) ∧ eqOk (res S d2) ∧ k (eqB (res S d1) (res S d2))
theorem od_eq {d1 d2 : D} (h : EqW S d1 d2 fun t => P (.bl t) S) : OpD X.K (rEqD X.K) d1 d2 S P := fun u H v1 v2 Q hS r1 r2 hQ =>
  ⟨_, _, dp_res hS r1 h.1.1, dp_res hS r2 h.2.1.1, h.1.2, h.2.1.2, hQ _ H (.here hS (.bl _) h.2.2)⟩
theorem od_ne {d1 d2 : D} (h : EqW S d1 d2 fun t => P (.bl (!t)) S) : OpD X.K (rNeD X.K) d1 d2 S P := fun u H v1 v2 Q hS r1 r2 hQ =>
  ⟨_, _, dp_res hS r1 h.1.1, dp_res hS r2 h.2.1.1, h.1.2, h.2.1.2, hQ _ H (.here hS (.bl _) h.2.2)⟩
theorem je_eq (hu : X.A.units + 64 < cLine) (h : JE X a ρ S (fun d1 S1 => JE X b ρ S1 (fun d2 S2 => EqW S2 d1 d2 fun t => P (.bl t) S2) B) B) : JE X (.Compare a [.Eq] [b] pos) ρ S P B := je_cmp (op_eqD hu) (nomark _) (h.mono fun _ _ q => q.mono fun _ _ q => od_eq q)
theorem je_ne (hu : X.A.units + 64 < cLine) (h : JE X a ρ S (fun d1 S1 => JE X b ρ S1 (fun d2 S2 => EqW S2 d1 d2 fun t => P (.bl (!t)) S2) B) B) : JE X (.Compare a [.NotEq] [b] pos) ρ S P B := je_cmp (op_neD hu) (nomark _) (h.mono fun _ _ q => q.mono fun _ _ q => od_ne q)
theorem jt_eq (hu : X.A.units + 64 < cLine) (h : JE X a ρ S (fun d1 S1 => JE X b ρ S1 (fun d2 S2 => EqW S2 d1 d2 fun t => PT t S2) B) B) : JT X (.Compare a [.Eq] [b] pos) ρ S PT B := jt_cmp (op_eqD hu) (nomark _) (h.mono fun _ _ q => q.mono fun _ _ ⟨h1, h2, h3⟩ => od_eq ⟨h1, h2, _, rfl, h3⟩)
theorem jt_ne (hu : X.A.units + 64 < cLine) (h : JE X a ρ S (fun d1 S1 => JE X b ρ S1 (fun d2 S2 => EqW S2 d1 d2 fun t => PT (!t) S2) B) B) : JT X (.Compare a [.NotEq] [b] pos) ρ S PT B := jt_cmp (op_neD hu) (nomark _) (h.mono fun _ _ q => q.mono fun _ _ ⟨h1, h2, h3⟩ => od_ne ⟨h1, h2, _, rfl, h3⟩)
/-- the order of ints -/
def intW (d1 d2 : D) (k : Int → Int → Prop) : Prop := match d1, d2 with
  | .int i, .int j => k i j
  | _, _ => False
theorem od_int0 {g : Int → Int → V} {f : Int → Int → D} (hg : ∀ i j K u H, Rp K u H (g i j) (f i j)) {d1 d2 : D} (h : intW d1 d2 fun i j => P (f i j) S) : OpD X.K (rI0 g) d1 d2 S P := by
  cases d1 <;> cases d2 <;> first | exact od_I0 (fun u H => hg _ _ _ _ _) h | exact h.elim
theorem od_intC {C : Int → Int → Prop} {g : Int → Int → V} {f : Int → Int → D} (hg : ∀ i j K u H, Rp K u H (g i j) (f i j)) {d1 d2 : D} (h : intW d1 d2 fun i j => C i j ∧ P (f i j) S) : OpD X.K (rI C g) d1 d2 S P := by
  cases d1 <;> cases d2 <;> first | exact od_I (fun u H => hg _ _ _ _ _) h.1 h.2 | exact h.elim
theorem je_lt (h : JE X a ρ S (fun d1 S1 => JE X b ρ S1 (fun d2 S2 => intW d1 d2 fun i j => P (.bl (decide (i < j))) S2) B) B) : JE X (.Compare a [.Lt] [b] pos) ρ S P B := je_cmp op_lt (nomark _) (h.mono fun _ _ q => q.mono fun _ _ q => od_int0 (fun _ _ _ _ _ => .bl _) q)
theorem je_le (h : JE X a ρ S (fun d1 S1 => JE X b ρ S1 (fun d2 S2 => intW d1 d2 fun i j => P (.bl (decide (i ≤ j))) S2) B) B) : JE X (.Compare a [.LtE] [b] pos) ρ S P B := je_cmp op_le (nomark _) (h.mono fun _ _ q => q.mono fun _ _ q => od_int0 (fun _ _ _ _ _ => .bl _) q)
theorem je_gt (h : JE X a ρ S (fun d1 S1 => JE X b ρ S1 (fun d2 S2 => intW d1 d2 fun i j => P (.bl (decide (j < i))) S2) B) B) : JE X (.Compare a [.Gt] [b] pos) ρ S P B := je_cmp op_gt (nomark _) (h.mono fun _ _ q => q.mono fun _ _ q => od_int0 (fun _ _ _ _ _ => .bl _) q)
theorem je_ge (h : JE X a ρ S (fun d1 S1 => JE X b ρ S1 (fun d2 S2 => intW d1 d2 fun i j => P (.bl (decide (j ≤ i))) S2) B) B) : JE X (.Compare a [.GtE] [b] pos) ρ S P B := je_cmp op_ge (nomark _) (h.mono fun _ _ q => q.mono fun _ _ q => od_int0 (fun _ _ _ _ _ => .bl _) q)
theorem jt_lt (h : JE X a ρ S (fun d1 S1 => JE X b ρ S1 (fun d2 S2 => intW d1 d2 fun i j => PT (decide (i < j)) S2) B) B) : JT X (.Compare a [.Lt] [b] pos) ρ S PT B := jt_cmp op_lt (nomark _) (h.mono fun _ _ q => q.mono fun d1 d2 q => od_int0 (f := fun i j => .bl (decide (i < j))) (fun _ _ _ _ _ => .bl _) (by revert q; unfold intW; split <;> first | exact fun q => ⟨_, rfl, q⟩ | exact id))
theorem jt_le (h : JE X a ρ S (fun d1 S1 => JE X b ρ S1 (fun d2 S2 => intW d1 d2 fun i j => PT (decide (i ≤ j)) S2) B) B) : JT X (.Compare a [.LtE] [b] pos) ρ S PT B := jt_cmp op_le (nomark _) (h.mono fun _ _ q => q.mono fun d1 d2 q => od_int0 (f := fun i j => .bl (decide (i ≤ j))) (fun _ _ _ _ _ => .bl _) (by revert q; unfold intW; split <;> first | exact fun q => ⟨_, rfl, q⟩ | exact id))
theorem jt_gt (h : JE X a ρ S (fun d1 S1 => JE X b ρ S1 (fun d2 S2 => intW d1 d2 fun i j => PT (decide (j < i)) S2) B) B) : JT X (.Compare a [.Gt] [b] pos) ρ S PT B := jt_cmp op_gt (nomark _) (h.mono fun _ _ q => q.mono fun d1 d2 q => od_int0 (f := fun i j => .bl (decide (j < i))) (fun _ _ _ _ _ => .bl _) (by revert q; unfold intW; split <;> first | exact fun q => ⟨_, rfl, q⟩ | exact id))
theorem jt_ge (h : JE X a ρ S (fun d1 S1 => JE X b ρ S1 (fun d2 S2 => intW d1 d2 fun i j => PT (decide (j ≤ i)) S2) B) B) : JT X (.Compare a [.GtE] [b] pos) ρ S PT B := jt_cmp op_ge (nomark _) (h.mono fun _ _ q => q.mono fun d1 d2 q => od_int0 (f := fun i j => .bl (decide (j ≤ i))) (fun _ _ _ _ _ => .bl _) (by revert q; unfold intW; split <;> first | exact fun q => ⟨_, rfl, q⟩ | exact id))
/-- a - b, a * b, a // b, a % b, a ** b of ints -/
theorem je_sub (h : JE X a ρ S (fun d1 S1 => JE X b ρ S1 (fun d2 S2 => intW d1 d2 fun i j => P (.int (i - j)) S2) B) B) : JE X (.BinOp a .Sub b pos) ρ S P B := je_op op_sub (h.mono fun _ _ q => q.mono fun _ _ q => od_int0 (fun _ _ _ _ _ => .int _) q)
theorem je_mulI (h : JE X a ρ S (fun d1 S1 => JE X b ρ S1 (fun d2 S2 => intW d1 d2 fun i j => CMul i j ∧ P (.int (i * j)) S2) B) B) : JE X (.BinOp a .Mult b pos) ρ S P B := je_op op_mul (h.mono fun _ _ q => q.mono fun _ _ q => od_intC (f := fun i j => .int (i * j)) (fun _ _ _ _ _ => .int _) q)
theorem je_mod (h : JE X a ρ S (fun d1 S1 => JE X b ρ S1 (fun d2 S2 => intW d1 d2 fun i j => 0 < j ∧ P (.int (i % j)) S2) B) B) : JE X (.BinOp a .Mod b pos) ρ S P B := je_op op_mod (h.mono fun _ _ q => q.mono fun _ _ q => od_intC (f := fun i j => .int (i % j)) (fun _ _ _ _ _ => .int _) q)
theorem je_fdiv (h : JE X a ρ S (fun d1 S1 => JE X b ρ S1 (fun d2 S2 => intW d1 d2 fun i j => CDiv i j ∧ P (.int (i / j)) S2) B) B) : JE X (.BinOp a .FloorDiv b pos) ρ S P B := je_op op_fdiv (h.mono fun _ _ q => q.mono fun _ _ q => od_intC (f := fun i j => .int (i / j)) (fun _ _ _ _ _ => .int _) q)
theorem je_pow (h : JE X a ρ S (fun d1 S1 => JE X b ρ S1 (fun d2 S2 => intW d1 d2 fun i j => CPow i j ∧ P (.int (i ^ j.toNat)) S2) B) B) : JE X (.BinOp a .Pow b pos) ρ S P B := je_op op_pow (h.mono fun _ _ q => q.mono fun _ _ q => od_intC (f := fun i j => .int (i ^ j.toNat)) (fun _ _ _ _ _ => .int _) q)
/-- a + b: ints, lists -/
def addW (S : Store) (d1 d2 : D) (P : D → Store → Prop) : Prop := match res S d1, res S d2 with
  | .int i, .int j => P (.int (i + j)) S
  | .lst xs, .lst ys => xs.length + ys.length ≤ sizeLine ∧ P (.lst (xs ++ ys)) S
  | .str x, .str y => x.length + y.length ≤ sizeLine ∧ P (.str (x ++ y)) S
  | _, _ => False
theorem od_add {d1 d2 : D} (h : addW S d1 d2 P) : OpD X.K (fun x y H Q => (rI0 fun i j => .int (i + j)) x y H Q ∨ rCat x y H Q ∨ ∃ i j, x = .str i ∧ y = .str j ∧ i.length + j.length ≤ sizeLine ∧ Q (.str (i ++ j)) H) d1 d2 S P := fun u H v1 v2 Q hS r1 r2 hQ => by
  unfold addW at h
  split at h
  · rename_i i j e1 e2
    cases res_int e1; cases res_int e2
    cases r1; cases r2
    exact .inl ⟨i, j, rfl, rfl, hQ _ H (.here hS (.int _) h)⟩
  · rename_i xs ys e1 e2
    obtain ⟨a1, vs1, rfl, h1, q1⟩ := res_lst hS r1 e1
    obtain ⟨a2, vs2, rfl, h2, q2⟩ := res_lst hS r2 e2
    exact .inr (.inl ⟨a1, a2, vs1, vs2, rfl, rfl, h1, h2, by rw [q1.length, q2.length]; exact h.1, fun p hp => hQ _ _ (good_lst hS hp (q1.append q2) h.2)⟩)
  · rename_i x y e1 e2
    cases res_str e1; cases res_str e2
    cases r1; cases r2
    exact .inr (.inr ⟨x, y, rfl, rfl, h.1, hQ _ H (.here hS (.str _) h.2)⟩)
  · exact h.elim
theorem je_add (h : JE X a ρ S (fun d1 S1 => JE X b ρ S1 (fun d2 S2 => addW S2 d1 d2 P) B) B) : JE X (.BinOp a .Add b pos) ρ S P B := je_op (op_add.or (op_cat.or op_add_str)) (h.mono fun _ _ q => q.mono fun _ _ q => od_add q)
/-- x is None -/
def isN : D → Option Bool
  | .non => some true
  | .val _ => none
  | _ => some false
theorem isN_of {K : PySem.W.Frag} {u : Mu} {H : Hp} {v : V} {d : D} {t : Bool} (r : Rp K u H v d) (h : isN d = some t) : decide (v = .non) = t := by
  cases r <;> cases h <;> rfl
theorem je_isN (h : JE X a ρ S (fun d S1 => ∃ t, isN d = some t ∧ P (.bl t) S1) B) {j pos'} : JE X (.Compare a [.Is] [.Constant .none j pos'] pos) ρ S P B :=
  je_of (pe_cmp (pc_isN pe_w)) fun u σ H Q hW hS hE hQ => h u σ H _ hW hS hE fun v H1 ⟨u1, d1, S1, A1, hS1, r1, t, ht, q⟩ => hQ _ H1 ⟨u1, _, S1, A1, hS1, .bl _, by rw [isN_of r1 ht]; exact q⟩
theorem je_notN (h : JE X a ρ S (fun d S1 => ∃ t, isN d = some t ∧ P (.bl (!t)) S1) B) {j pos'} : JE X (.Compare a [.IsNot] [.Constant .none j pos'] pos) ρ S P B :=
  je_of (pe_cmp (pc_notN pe_w)) fun u σ H Q hW hS hE hQ => h u σ H _ hW hS hE fun v H1 ⟨u1, d1, S1, A1, hS1, r1, t, ht, q⟩ => hQ _ H1 ⟨u1, _, S1, A1, hS1, .bl _, by rw [isN_of r1 ht]; exact q⟩
theorem jt_isN (h : JE X a ρ S (fun d S1 => ∃ t, isN d = some t ∧ PT t S1) B) {j pos'} : JT X (.Compare a [.Is] [.Constant .none j pos'] pos) ρ S PT B :=
  jt_of (pt_cmp (pc_isN pe_w)) fun u σ H Q hW hS hE hQ => h u σ H _ hW hS hE fun v H1 ⟨u1, d1, S1, A1, hS1, r1, t, ht, q⟩ => ⟨_, rfl, hQ _ H1 ⟨u1, S1, A1, hS1, by rw [isN_of r1 ht]; exact q⟩⟩
theorem jt_notN (h : JE X a ρ S (fun d S1 => ∃ t, isN d = some t ∧ PT (!t) S1) B) {j pos'} : JT X (.Compare a [.IsNot] [.Constant .none j pos'] pos) ρ S PT B :=
  jt_of (pt_cmp (pc_notN pe_w)) fun u σ H Q hW hS hE hQ => h u σ H _ hW hS hE fun v H1 ⟨u1, d1, S1, A1, hS1, r1, t, ht, q⟩ => ⟨_, rfl, hQ _ H1 ⟨u1, S1, A1, hS1, by rw [isN_of r1 ht]; exact q⟩⟩
/-- x[i] -/
theorem atI_rp {K : PySem.W.Frag} {u : Mu} {H : Hp} {vs : List V} {ds : List D} {i : Int} {d : D} (r : RpA K u H vs ds) (h : atI ds i = some d) : ∃ v, atI vs i = some v ∧ Rp K u H v d := by
  unfold atI at h ⊢
  rw [r.length]
  cases q : ixN ds.length i with
  | none => rw [q] at h; cases h
  | some j => rw [q] at h; exact r.of h
def ixW (S : Store) (d1 d2 : D) (P : D → Store → Prop) : Prop := match res S d1, d2 with
  | .lst ds, .int i => ∃ d, atI ds i = some d ∧ P d S
  | .tup ds, .int i => ∃ d, atI ds i = some d ∧ P d S
  | .str x, .int i => x.length ≤ sizeLine ∧ ∃ c, atI x.cps.toList i = some c ∧ P (.str ⟨#[c]⟩) S
  | _, _ => False
theorem od_ix {d1 d2 : D} (h : ixW S d1 d2 P) : OpD X.K (rIx X.K) d1 d2 S P := fun u H v1 v2 Q hS r1 r2 hQ => by
  unfold ixW at h
  split at h
  · rename_i ds i e
    obtain ⟨d, hd, q⟩ := h
    obtain ⟨a, vs, rfl, h1, ra⟩ := res_lst hS r1 e
    obtain ⟨w, hw, rw'⟩ := atI_rp ra hd
    cases r2
    exact .inl ⟨a, vs, i, w, rfl, rfl, .inl (.inl h1), hw, hQ _ H (.here hS rw' q)⟩
  · rename_i ds i e
    obtain ⟨d, hd, q⟩ := h
    obtain ⟨a, vs, rfl, h1, ra⟩ := res_tup r1 e
    obtain ⟨w, hw, rw'⟩ := atI_rp ra hd
    cases r2
    exact .inr (.inl ⟨a, vs, i, w, rfl, rfl, h1, hw, hQ _ H (.here hS rw' q)⟩)
  · rename_i x i e
    cases res_str e
    cases r1; cases r2
    obtain ⟨hl, c, hc, q⟩ := h
    exact .inr (.inr ⟨x, i, c, rfl, rfl, hl, hc, hQ _ H (.here hS (.str _) q)⟩)
  · exact h.elim
theorem je_item (hs : PlainIx b) (h : JE X a ρ S (fun d1 S1 => JE X b ρ S1 (fun d2 S2 => ixW S2 d1 d2 P) B) B) : JE X (.Subscript a b pos) ρ S P B := je_ix ix_seq hs (h.mono fun _ _ q => q.mono fun _ _ q => od_ix q)
/-- x in xs, flat things -/
def inW (S : Store) (d1 d2 : D) (k : Bool → Prop) : Prop := flatD d1 = true ∧ match res S d2 with
  | .lst ds => ds.all flatD = true ∧ k (ds.any fun d => eqF d d1)
  | .tup ds => ds.all flatD = true ∧ k (ds.any fun d => eqF d d1)
  | _ => False
theorem od_in {d1 d2 : D} {neg : Bool} (h : inW S d1 d2 fun t => P (.bl (if neg then !t else t)) S) : OpD X.K (rIn X.K neg) d1 d2 S P := fun u H v1 v2 Q hS r1 r2 hQ => by
  obtain ⟨hf, h⟩ := h
  split at h
  · rename_i ds e
    obtain ⟨a, vs, rfl, h1, ra⟩ := res_lst hS r2 e
    refine ⟨a, vs, rfl, .inl (.inl (.inl h1)), flat_of r1 hf, flats_of ra h.1, hQ _ H (.here hS (.bl _) ?_)⟩
    rw [anyF_of r1 hf ra h.1]; exact h.2
  · rename_i ds e
    obtain ⟨a, vs, rfl, h1, ra⟩ := res_tup r2 e
    refine ⟨a, vs, rfl, .inr h1, flat_of r1 hf, flats_of ra h.1, hQ _ H (.here hS (.bl _) ?_)⟩
    rw [anyF_of r1 hf ra h.1]; exact h.2
  · exact h.elim
theorem je_in (hm : behindInMarks .In b = false) (h : JE X a ρ S (fun d1 S1 => JE X b ρ S1 (fun d2 S2 => inW S2 d1 d2 fun t => P (.bl t) S2) B) B) : JE X (.Compare a [.In] [b] pos) ρ S P B := je_cmp op_in_seq hm (h.mono fun _ _ q => q.mono fun _ _ q => od_in (neg := false) q)
theorem je_nin (hm : behindInMarks .NotIn b = false) (h : JE X a ρ S (fun d1 S1 => JE X b ρ S1 (fun d2 S2 => inW S2 d1 d2 fun t => P (.bl (!t)) S2) B) B) : JE X (.Compare a [.NotIn] [b] pos) ρ S P B := je_cmp op_notIn_seq hm (h.mono fun _ _ q => q.mono fun _ _ q => od_in (neg := true) q)
theorem inW.mono {d1 d2 : D} {k k' : Bool → Prop} (h : inW S d1 d2 k) (hk : ∀ t, k t → k' t) : inW S d1 d2 k' := by
  refine ⟨h.1, ?_⟩
  have h2 := h.2
  split <;> rename_i e <;> simp only [e] at h2
  · exact ⟨h2.1, hk _ h2.2⟩
  · exact ⟨h2.1, hk _ h2.2⟩
theorem jt_in (hm : behindInMarks .In b = false) (h : JE X a ρ S (fun d1 S1 => JE X b ρ S1 (fun d2 S2 => inW S2 d1 d2 fun t => PT t S2) B) B) : JT X (.Compare a [.In] [b] pos) ρ S PT B := jt_cmp op_in_seq hm (h.mono fun _ _ q => q.mono fun _ _ q => od_in (neg := false) (q.mono fun t z => ⟨_, rfl, z⟩))
theorem jt_nin (hm : behindInMarks .NotIn b = false) (h : JE X a ρ S (fun d1 S1 => JE X b ρ S1 (fun d2 S2 => inW S2 d1 d2 fun t => PT (!t) S2) B) B) : JT X (.Compare a [.NotIn] [b] pos) ρ S PT B := jt_cmp op_notIn_seq hm (h.mono fun _ _ q => q.mono fun _ _ q => od_in (neg := true) (q.mono fun t z => ⟨_, rfl, z⟩))
end
end J
namespace J
open PySem PySem.Spec PyProof.Rows L2

theorem bb_len : bootBuiltins "len" = some (.builtin "len") := by decide +kernel
theorem bb_all : bootBuiltins "all" = some (.builtin "all") := by decide +kernel
theorem bb_any : bootBuiltins "any" = some (.builtin "any") := by decide +kernel
theorem bb_max : bootBuiltins "max" = some (.builtin "max") := by decide +kernel
theorem bb_min : bootBuiltins "min" = some (.builtin "min") := by decide +kernel
theorem bb_abs : bootBuiltins "abs" = some (.builtin "abs") := by decide +kernel
theorem bb_sum : bootBuiltins "sum" = some (.builtin "sum") := by decide +kernel
theorem bb_sorted : bootBuiltins "sorted" = some (.builtin "sorted") := by decide +kernel
theorem bb_isinstance : bootBuiltins "isinstance" = some (.builtin "isinstance") := by decide +kernel
theorem bb_repr : bootBuiltins "repr" = some (.builtin "repr") := by decide +kernel
theorem bb_int : bootBuiltins "int" = some (.type "int") := by decide +kernel
theorem bb_bool : bootBuiltins "bool" = some (.type "bool") := by decide +kernel
theorem bb_str : bootBuiltins "str" = some (.type "str") := by decide +kernel
theorem bb_list : bootBuiltins "list" = some (.type "list") := by decide +kernel
theorem bb_tuple : bootBuiltins "tuple" = some (.type "tuple") := by decide +kernel
theorem bb_dict : bootBuiltins "dict" = some (.type "dict") := by decide +kernel
section
variable {X : Cx} {a b c e : Expr} {es : List Expr} {ρ : Sl} {S : Store} {P : D → Store → Prop} {B : Bad} {pos p : Pos}
abbrev Plain1 (X : Cx) (e : Expr) (es : List Expr) : Prop := starEach (e :: es) X.env = (false, eval e X.env) :: starEach es X.env
theorem rpA1 {K : PySem.W.Frag} {u : Mu} {H : Hp} {vs : List V} {d : D} (r : RpA K u H vs [d]) : ∃ v, vs = [v] ∧ Rp K u H v d := by
  cases r with
  | cons r t => cases t; exact ⟨_, rfl, r⟩
theorem rpA2 {K : PySem.W.Frag} {u : Mu} {H : Hp} {vs : List V} {d d' : D} (r : RpA K u H vs [d, d']) : ∃ v w, vs = [v, w] ∧ Rp K u H v d ∧ Rp K u H w d' := by
  cases r with
  | cons r t => obtain ⟨w, rfl, q⟩ := rpA1 t; exact ⟨_, _, rfl, r, q⟩
/-- len(x) -/
def lenW (S : Store) (ds : List D) (P : D → Store → Prop) : Prop := match ds with
  | [d] => match res S d with
    | .lst xs => P (.int xs.length) S
    | .tup xs => P (.int xs.length) S
    | .str x => x.length ≤ sizeLine ∧ P (.int x.length) S
    | _ => False
  | _ => False
theorem cd_len {ds : List D} (h : lenW S ds P) : CaD X.K (fun xs H Q => (∃ p ys, xs = [.ref p] ∧ (SqL X.K H p ys ∨ SqT X.K H p ys) ∧ Q (.int ys.length) H) ∨ ∃ z, xs = [.str z] ∧ z.length ≤ sizeLine ∧ Q (.int z.length) H) ds S P := fun u H vs Q hS r hQ => by
  unfold lenW at h
  split at h
  · obtain ⟨v, rfl, r0⟩ := rpA1 r
    split at h
    · rename_i e
      obtain ⟨a, vs, rfl, h1, ra⟩ := res_lst hS r0 e
      exact .inl ⟨a, vs, rfl, .inl (.inl (.inl h1)), hQ _ H (by rw [ra.length]; exact .here hS (.int _) h)⟩
    · rename_i e
      obtain ⟨a, vs, rfl, h1, ra⟩ := res_tup r0 e
      exact .inl ⟨a, vs, rfl, .inr h1, hQ _ H (by rw [ra.length]; exact .here hS (.int _) h)⟩
    · rename_i e
      cases res_str e
      cases r0
      exact .inr ⟨_, rfl, h.1, hQ _ H (.here hS (.int _) h.2)⟩
    · exact h.elim
  · exact h.elim
theorem je_len (hg : Gl X "len") (hm : X.mg "len" = none) (h : JA X (e :: es) ρ S (fun ds S1 => lenW S1 ds P) B) (he : Plain1 X e es := by rfl) (hpl : (backTo pos (starEach es X.env)).any (·.1) = false := by rfl) : JE X (.Call (.Name "len" p) (e :: es) [] pos) ρ S P B :=
  je_callB (call_len_seq.or call_len_str) hg hm bb_len (fun u σ H Q hW hS hE hQ => h u σ H Q hW hS hE fun vs H' ⟨u', ds, S', A, hS', r, q⟩ => hQ vs H' ⟨u', ds, S', A, hS', r, cd_len q⟩) (by decide) (by decide) he hpl
theorem JA.mono {PL PL' : List D → Store → Prop} (h : JA X es ρ S PL B) (hp : ∀ ds S, PL ds S → PL' ds S) : JA X es ρ S PL' B := fun u σ H Q hW hS hE hQ => h u σ H Q hW hS hE fun vs H' ⟨u', ds, S', A, hS', r, q⟩ => hQ vs H' ⟨u', ds, S', A, hS', r, hp _ _ q⟩
/-- int(x) of an int or a bool -/
def intCW (S : Store) (ds : List D) (P : D → Store → Prop) : Prop := match ds with
  | [.int i] => P (.int i) S
  | [.bl t] => P (.int (if t then 1 else 0)) S
  | _ => False
theorem je_int1 (hg : Gl X "int") (hm : X.mg "int" = none) (h : JA X (e :: es) ρ S (fun ds S1 => intCW S1 ds P) B) (he : Plain1 X e es := by rfl) (hpl : (backTo pos (starEach es X.env)).any (·.1) = false := by rfl) : JE X (.Call (.Name "int" p) (e :: es) [] pos) ρ S P B :=
  je_callT call_int1 hg hm bb_int (h.mono fun ds S q u H vs Q hS r hQ => by
    unfold intCW at q
    split at q
    · obtain ⟨v, rfl, r0⟩ := rpA1 r
      cases r0
      exact .inl ⟨_, rfl, hQ _ H (.here hS (.int _) q)⟩
    · obtain ⟨v, rfl, r0⟩ := rpA1 r
      cases r0
      exact .inr ⟨_, rfl, hQ _ H (.here hS (.int _) q)⟩
    · exact q.elim) (by decide) (by decide) he hpl
/-- list(x): a new list, frozen; of the store -/
def seqOf (S : Store) (d : D) : Option (List D) := match res S d with
  | .lst xs => some xs
  | .tup xs => some xs
  | _ => none
theorem seq_of {K : PySem.W.Frag} {u : Mu} {H : Hp} {v : V} {d : D} {xs : List D} (hS : StoR K u H S) (r : Rp K u H v d) (h : seqOf S d = some xs) : ∃ a vs, v = .ref a ∧ (SqL K H a vs ∨ SqT K H a vs) ∧ RpA K u H vs xs := by
  unfold seqOf at h
  split at h
  · rename_i e; cases h
    obtain ⟨a, vs, rfl, h1, ra⟩ := res_lst hS r e
    exact ⟨a, vs, rfl, .inl (.inl (.inl h1)), ra⟩
  · rename_i e; cases h
    obtain ⟨a, vs, rfl, h1, ra⟩ := res_tup r e
    exact ⟨a, vs, rfl, .inr h1, ra⟩
  · cases h
theorem je_list (hg : Gl X "list") (hm : X.mg "list" = none) (h : JA X (e :: es) ρ S (fun ds S1 => ∃ d xs, ds = [d] ∧ seqOf S1 d = some xs ∧ P (.lst xs) S1) B) (he : Plain1 X e es := by rfl) (hpl : (backTo pos (starEach es X.env)).any (·.1) = false := by rfl) : JE X (.Call (.Name "list" p) (e :: es) [] pos) ρ S P B :=
  je_callT call_list_of hg hm bb_list (h.mono fun ds S ⟨d, xs, e1, e2, q⟩ u H vs Q hS r hQ => by
    subst e1
    obtain ⟨v, rfl, r0⟩ := rpA1 r
    obtain ⟨a, vs, rfl, h1, ra⟩ := seq_of hS r0 e2
    exact ⟨a, vs, rfl, h1, fun l hl => hQ _ _ (good_lst hS hl ra q)⟩) (by decide) (by decide) he hpl
theorem je_listP (hg : Gl X "list") (hm : X.mg "list" = none) (h : JA X (e :: es) ρ S (fun ds S1 => ∃ d xs, ds = [d] ∧ seqOf S1 d = some xs ∧ P (.ptr S1.length) (S1 ++ [.lst xs])) B) (he : Plain1 X e es := by rfl) (hpl : (backTo pos (starEach es X.env)).any (·.1) = false := by rfl) : JE X (.Call (.Name "list" p) (e :: es) [] pos) ρ S P B :=
  je_callT call_list_of hg hm bb_list (h.mono fun ds S ⟨d, xs, e1, e2, q⟩ u H vs Q hS r hQ => by
    subst e1
    obtain ⟨v, rfl, r0⟩ := rpA1 r
    obtain ⟨a, vs, rfl, h1, ra⟩ := seq_of hS r0 e2
    exact ⟨a, vs, rfl, h1, fun l hl => hQ _ _ (good_ptr hS hl ra q)⟩) (by decide) (by decide) he hpl
/-- list(range(n)) -/
theorem rg_rp {K : PySem.W.Frag} {u : Mu} {H : Hp} (j : Int) : RpA K u H (rgV 0 j) (irow 0 j.toNat) := by
  have e : (j - 0).toNat = j.toNat := by omega
  unfold rgV irow
  rw [e]
  generalize List.range j.toNat = l
  induction l with
  | nil => exact .nil
  | cons i l ih => exact .cons (.int _) ih
theorem je_listR {p2 pos2 : Pos} (hc : X.calm = true) (hg : Gl X "list") (hm : X.mg "list" = none) (hg2 : Gl X "range") (hm2 : X.mg "range" = none) (h : JE X a ρ S (fun d S1 => ∃ j : Int, d = .int j ∧ 0 ≤ j ∧ j ≤ 16777216 ∧ P (.lst (irow 0 j.toNat)) S1) B)
    (na : starEach [a] X.env = (false, eval a X.env) :: starEach [] X.env := by rfl) (nb : starEach [(.Call (.Name "range" p2) [a] [] pos2 : Expr)] X.env = (false, eval (.Call (.Name "range" p2) [a] [] pos2) X.env) :: starEach [] X.env := by rfl) :
    JE X (.Call (.Name "list" p) [.Call (.Name "range" p2) [a] [] pos2] [] pos) ρ S P B :=
  je_of (pe_listRg hc hg hm (prg_1 hg2 hm2 pe_w na) nb) fun u σ H Q hW hS hE hQ => h u σ H _ hW hS hE fun v H1 ⟨u1, d1, S1, A1, hS1, r1, j, e1, h0, h1, q⟩ => by
    subst e1
    cases r1
    exact ⟨j, rfl, RgOk.of_le (Int.le_refl 0) h1 (by omega) h0, fun l hl => hQ _ _ ((good_lst hS1 hl (rg_rp j) q).after A1)⟩
/-- all([..]), any([..]) -/
def bls (bs : List Bool) : List D := bs.map D.bl
theorem bls_of {K : PySem.W.Frag} {u : Mu} {H : Hp} : ∀ {bs : List Bool} {vs : List V}, RpA K u H vs (bls bs) → vs = bs.map V.bl
  | [], _, .nil => rfl
  | _ :: _, _, .cons r t => by cases r; rw [List.map_cons, bls_of t]
theorem je_all (hc : X.calm = true) (hg : Gl X "all") (hm : X.mg "all" = none) (h : JA X (e :: es) ρ S (fun ds S1 => ∃ d bs, ds = [d] ∧ res S1 d = .lst (bls bs) ∧ P (.bl (bs.all id)) S1) B) (he : Plain1 X e es := by rfl) (hpl : (backTo pos (starEach es X.env)).any (·.1) = false := by rfl) : JE X (.Call (.Name "all" p) (e :: es) [] pos) ρ S P B :=
  je_callB (cr_all hc) hg hm bb_all (h.mono fun ds S ⟨d, bs, e1, e2, q⟩ u H vs Q hS r hQ => by
    subst e1
    obtain ⟨v, rfl, r0⟩ := rpA1 r
    obtain ⟨a, vs, rfl, h1, ra⟩ := res_lst hS r0 e2
    cases bls_of ra
    exact ⟨a, bs, rfl, .inl (.inl h1), hQ _ _ (.here hS (.bl _) q)⟩) (by decide) (by decide) he hpl
theorem je_any (hc : X.calm = true) (hg : Gl X "any") (hm : X.mg "any" = none) (h : JA X (e :: es) ρ S (fun ds S1 => ∃ d bs, ds = [d] ∧ res S1 d = .lst (bls bs) ∧ P (.bl (bs.any id)) S1) B) (he : Plain1 X e es := by rfl) (hpl : (backTo pos (starEach es X.env)).any (·.1) = false := by rfl) : JE X (.Call (.Name "any" p) (e :: es) [] pos) ρ S P B :=
  je_callB (cr_any hc) hg hm bb_any (h.mono fun ds S ⟨d, bs, e1, e2, q⟩ u H vs Q hS r hQ => by
    subst e1
    obtain ⟨v, rfl, r0⟩ := rpA1 r
    obtain ⟨a, vs, rfl, h1, ra⟩ := res_lst hS r0 e2
    cases bls_of ra
    exact ⟨a, bs, rfl, .inl (.inl h1), hQ _ _ (.here hS (.bl _) q)⟩) (by decide) (by decide) he hpl
/-- ints -/
def intsD (ns : List Int) : List D := ns.map D.int
theorem intsD_of {K : PySem.W.Frag} {u : Mu} {H : Hp} : ∀ {ns : List Int} {vs : List V}, RpA K u H vs (intsD ns) → vs = ns.map V.int
  | [], _, .nil => rfl
  | _ :: _, _, .cons r t => by cases r; rw [List.map_cons, intsD_of t]
theorem intsD_rp {K : PySem.W.Frag} {u : Mu} {H : Hp} : ∀ ns : List Int, RpA K u H (ns.map V.int) (intsD ns)
  | [] => .nil
  | _ :: ns => .cons (.int _) (intsD_rp ns)
theorem je_maxL (hc : X.calm = true) (hg : Gl X "max") (hm : X.mg "max" = none) (h : JA X [e] ρ S (fun ds S1 => ∃ d ns, ds = [d] ∧ res S1 d = .lst (intsD ns) ∧ 0 < ns.length ∧ ∀ m, m ∈ ns → (∀ y, y ∈ ns → y ≤ m) → P (.int m) S1) B) (he : Plain1 X e [] := by rfl) (hpl : (backTo pos (starEach [] X.env)).any (·.1) = false := by rfl) : JE X (.Call (.Name "max" p) [e] [] pos) ρ S P B :=
  je_callB (cr_max hc) hg hm bb_max (h.mono fun ds S ⟨d, ns, e1, e2, h0, q⟩ u H vs Q hS r hQ => by
    subst e1
    obtain ⟨v, rfl, r0⟩ := rpA1 r
    obtain ⟨a, vs, rfl, h1, ra⟩ := res_lst hS r0 e2
    cases intsD_of ra
    exact ⟨a, ns, rfl, .inl (.inl h1), h0, fun m h2 h3 => hQ _ _ (.here hS (.int _) (q m h2 h3))⟩) (by decide) (by decide) he hpl
theorem je_max2 (hc : X.calm = true) (hg : Gl X "max") (hm : X.mg "max" = none) (h : JA X [a, b] ρ S (fun ds S1 => ∃ i j, ds = [.int i, .int j] ∧ P (.int (if j > i then j else i)) S1) B) (he : Plain1 X a [b] := by rfl) (hpl : (backTo pos (starEach [b] X.env)).any (·.1) = false := by rfl) : JE X (.Call (.Name "max" p) [a, b] [] pos) ρ S P B :=
  je_callB (call_max2 hc) hg hm bb_max (h.mono fun ds S ⟨i, j, e1, q⟩ u H vs Q hS r hQ => by
    subst e1
    obtain ⟨v, w, rfl, r0, r'⟩ := rpA2 r
    cases r0; cases r'
    exact ⟨i, j, rfl, hQ _ _ (.here hS (.int _) q)⟩) (by decide) (by decide) he hpl
theorem je_min2 (hc : X.calm = true) (hg : Gl X "min") (hm : X.mg "min" = none) (h : JA X [a, b] ρ S (fun ds S1 => ∃ i j, ds = [.int i, .int j] ∧ P (.int (if j < i then j else i)) S1) B) (he : Plain1 X a [b] := by rfl) (hpl : (backTo pos (starEach [b] X.env)).any (·.1) = false := by rfl) : JE X (.Call (.Name "min" p) [a, b] [] pos) ρ S P B :=
  je_callB (call_min2 hc) hg hm bb_min (h.mono fun ds S ⟨i, j, e1, q⟩ u H vs Q hS r hQ => by
    subst e1
    obtain ⟨v, w, rfl, r0, r'⟩ := rpA2 r
    cases r0; cases r'
    exact ⟨i, j, rfl, hQ _ _ (.here hS (.int _) q)⟩) (by decide) (by decide) he hpl
theorem je_abs (hg : Gl X "abs") (hm : X.mg "abs" = none) (h : JA X (e :: es) ρ S (fun ds S1 => ∃ i, ds = [.int i] ∧ P (.int (if i < 0 then -i else i)) S1) B) (he : Plain1 X e es := by rfl) (hpl : (backTo pos (starEach es X.env)).any (·.1) = false := by rfl) : JE X (.Call (.Name "abs" p) (e :: es) [] pos) ρ S P B :=
  je_callB call_abs hg hm bb_abs (h.mono fun ds S ⟨i, e1, q⟩ u H vs Q hS r hQ => by
    subst e1
    obtain ⟨v, rfl, r0⟩ := rpA1 r
    cases r0
    exact ⟨i, rfl, hQ _ _ (.here hS (.int _) q)⟩) (by decide) (by decide) he hpl
theorem je_sorted (hg : Gl X "sorted") (hm : X.mg "sorted" = none) (h : JA X (e :: es) ρ S (fun ds S1 => ∃ d ns, ds = [d] ∧ res S1 d = .lst (intsD ns) ∧ ns.length < 64 ∧ ∀ ns' : List Int, ns'.Perm ns → ns'.Pairwise (· ≤ ·) → P (.lst (intsD ns')) S1) B) (he : Plain1 X e es := by rfl) (hpl : (backTo pos (starEach es X.env)).any (·.1) = false := by rfl) : JE X (.Call (.Name "sorted" p) (e :: es) [] pos) ρ S P B :=
  je_callB cr_sorted hg hm bb_sorted (h.mono fun ds S ⟨d, ns, e1, e2, h0, q⟩ u H vs Q hS r hQ => by
    subst e1
    obtain ⟨v, rfl, r0⟩ := rpA1 r
    obtain ⟨a, vs, rfl, h1, ra⟩ := res_lst hS r0 e2
    cases intsD_of ra
    exact ⟨a, ns, rfl, .inl (.inl h1), h0, fun ns' p hp hs hn => hQ _ _ (good_lst hS hn (intsD_rp ns') (q ns' hp hs))⟩) (by decide) (by decide) he hpl
end
end J
namespace J
open PySem PySem.Spec PyProof.Rows L2
section
variable {K : PySem.W.Frag} {u : Mu} {H : Hp} {S : Store}
/-- a thing of the store is written -/
theorem adv_put {k n : Nat} {a : Addr} {o : HO} (hS : StoR K u H S) (hk : u.m[k]? = some (some a)) : Adv n u H u (upd H a o) := by
  have ha : some a ∈ u.m := List.mem_of_getElem? hk
  refine ⟨⟨fun _ _ => rfl, fun k a e => .inl (List.mem_of_getElem? e), fun b o' e hb => (upd_ne (fun z : b = a => hb.1 (by rw [z]; exact ha))).trans e, fun b o' e => ?_, fun _ h => .inl h⟩, rfl, fun b hb => upd_ne (fun z : b = a => (hS.trf b hb).2 (by rw [z]; exact ha))⟩
  by_cases z : b = a
  · subst z; exact ⟨o, upd_same⟩
  · exact ⟨o', (upd_ne z).trans e⟩
theorem StoR.put {k : Nat} {a : Addr} {o : HO} {c : Cell} (hS : StoR K u H S) (hk : u.m[k]? = some (some a)) (hc : CellR K u (upd H a o) a c) : StoR K u (upd H a o) (S.set k c) where
  len := by rw [List.length_set]; exact hS.len
  inj := hS.inj
  trk := fun b hb => by
    obtain ⟨o', e⟩ := hS.trk b hb
    exact (adv_put (n := 0) (o := o) hS hk).mono b o' e
  trf := fun b hb => by
    obtain ⟨⟨o', e⟩, h⟩ := hS.trf b hb
    exact ⟨(adv_put (n := 0) (o := o) hS hk).mono b o' e, h⟩
  sto := fun j c' e => by
    by_cases hj : k = j
    · subst hj
      have hl : k < S.length := by rw [← hS.len]; exact (List.getElem?_eq_some_iff.mp hk).1
      rw [List.getElem?_set_self hl] at e
      cases e
      exact .inr ⟨a, hk, hc⟩
    · rw [List.getElem?_set_ne hj] at e
      rcases hS.sto j c' e with h | ⟨b, hb, r⟩
      · exact .inl h
      · refine .inr ⟨b, hb, r.mv (Nat.le_refl _) (adv_put hS hk).tr' (upd_ne fun z => hj ?_)⟩
        subst z
        exact hS.inj k j b hk hb
theorem good_put {P : D → Store → Prop} {k : Nat} {a : Addr} {vs : List V} {ds : List D} {v : V} {d : D} (hS : StoR K u H S) (hk : u.m[k]? = some (some a)) (r : RpA K u H vs ds) (rv : Rp K u H v d) (h : P d (S.set k (.lst ds))) : Good K P u H v (upd H a (.lst vs)) :=
  ⟨u, d, _, adv_put hS hk, hS.put (c := .lst ds) hk ⟨vs, upd_same, r.go (adv_put hS hk)⟩, rv.go (adv_put hS hk), h⟩
theorem cell_lst {k : Nat} {ds : List D} {v : V} (hS : StoR K u H S) (r : Rp K u H v (.ptr k)) (e : S[k]? = some (.lst ds)) : ∃ a vs, v = .ref a ∧ u.m[k]? = some (some a) ∧ H a = some (.lst vs) ∧ RpA K u H vs ds := by
  cases r with
  | ptr hk =>
    rcases hS.sto k _ e with z | ⟨a', ha', vs, h1, h2⟩
    · cases z
    · rw [hk] at ha'; cases ha'
      exact ⟨_, _, rfl, hk, h1, h2⟩
end
section
variable {X : Cx} {a b c e o i : Expr} {es : List Expr} {ρ : Sl} {S : Store} {P : D → Store → Prop} {PO : Out → Prop} {B : Bad} {pos p pos' apos cpos : Pos} {n : Nat}
/-- xs.append(e) -/
theorem je_append (h : JE X o ρ S (fun d S1 => ∃ k xs0, d = .ptr k ∧ S1[k]? = some (.lst xs0) ∧ JA X [e] ρ S1 (fun ds S2 => ∃ y xs, ds = [y] ∧ S2[k]? = some (.lst xs) ∧ xs.length < sizeLine ∧ P .non (S2.set k (.lst (xs ++ [y])))) B) B)
    (hbase : attributeBase o "append" X.env (eval o X.env) = eval o X.env := by rfl)
    (hfew : ((backTo cpos (starEach [e] X.env)).all (fun x => !x.1) && (backToKw cpos (keywordEach [] X.env)).all (fun x => x.1.isSome) && decide ([e].length + ([] : List Keyword).length + (if ([] : List Keyword).isEmpty then 0 else 1) < 30)) = true := by rfl)
    (hline : (apos.endLine == cpos.line) = true := by rfl) (hs : starEach [e] X.env = (false, eval e X.env) :: starEach [] X.env := by rfl) (hplain : (backTo cpos (starEach [] X.env)).any (·.1) = false := by rfl) :
    JE X (.Call (.Attribute o "append" apos) [e] [] cpos) ρ S P B :=
  je_bm PySem.F.plainAttrs_list PySem.F.slot_list_append PySem.F.type_list_append mt_append (h.mono fun d S1 ⟨k, xs0, e0, e1, q⟩ => by
    subst e0
    refine ⟨fun K u H v hS r => ?_, q.mono fun ds S2 ⟨y, xs, e2, e3, hl, q2⟩ u H v vs Q hS r ra hQ => ?_⟩
    · obtain ⟨a, vs, rfl, _, h1, _⟩ := cell_lst hS r e1
      exact .inl ⟨rfl, vs, .inl (.inl h1)⟩
    · subst e2
      obtain ⟨a, ws, rfl, hk, h1, rw'⟩ := cell_lst hS r e3
      obtain ⟨w, rfl, r0⟩ := rpA1 ra
      exact ⟨a, ws, w, rfl, rfl, h1, by rw [rw'.length]; exact hl, hQ _ _ (good_put hS hk (rw'.append (.cons r0 .nil)) .non q2)⟩) hbase hfew hline hs hplain
/-- xs[i] = e -/
theorem js_item (h : JE X e ρ S (fun y S1 => JE X o ρ S1 (fun d S2 => JE X i ρ S2 (fun di S3 => ∃ k j xs jj, d = .ptr k ∧ di = .int j ∧ S3[k]? = some (.lst xs) ∧ ixN xs.length j = some jj ∧ PO (.nx ρ (S3.set k (.lst (xs.set jj y))))) B) B) B)
    (ha : ∀ v, assign (.Subscript o i pos') X.env v = (do
      let ov ← holding [v] (eval o X.env)
      let iv ← holding [v, ov] (eval i X.env)
      standAt pos'
      holding [v, ov, iv] (setItem ov iv v)
      release [v, ov, iv] []) := by intro _; rfl)
    (hs : swapsWithSole [.Subscript o i pos'] e pos.line X.env = pure false := by rfl) (hw : swappedStores [.Subscript o i pos'] e X.env = pure none := by rfl) (h1 : (assignEach [.Subscript o i pos'] X.env).map (·.2) = [assign (.Subscript o i pos') X.env] := by rfl) :
    JS n X (.Assign [.Subscript o i pos'] e pos) ρ S PO B :=
  js_of (ps_asg pe_w (pg_sub pe_w pe_w set_list ha) hs hw h1) fun u σ H Dd hn hW hS hE hP => by
    have hW0 := hW.wish (hS.le hn)
    refine h u σ H _ hW0 hS hE fun y H1 ⟨u1, d1, S1, A1, hS1, r1, h1⟩ => h1 u1 σ H1 _ (hW0.after A1) hS1 (hE.adv A1) fun v H2 ⟨u2, d2, S2, A2, hS2, r2, h2⟩ => h2 u2 σ H2 _ (hW0.after (A1.tr A2)) hS2 (hE.adv (A1.tr A2)) fun w H3 ⟨u3, d3, S3, A3, hS3, r3, h3⟩ => ?_
    obtain ⟨k, j, xs, jj, rfl, rfl, e3, e4, q⟩ := h3
    obtain ⟨a, ws, rfl, hk, g1, rw'⟩ := cell_lst hS3 (r2.go A3) e3
    cases r3
    have r1' := (r1.go A2).go A3
    have A4 : Adv u3.m.length u3 H3 u3 (upd H3 a (.lst (ws.set jj y))) := adv_put hS3 hk
    refine ⟨a, ws, j, jj, rfl, rfl, g1, by rw [rw'.length]; exact e4, hP.nx σ _ (GoodE.of hn hS ((A1.tr (A2.tr A3)).tr A4) (hS3.put (c := .lst (xs.set jj d1)) hk ⟨_, upd_same, (RpA.set r1' jj rw').go A4⟩) (hE.adv ((A1.tr (A2.tr A3)).tr A4)) q)⟩
/-- x += e, ints -/
theorem js_augI {k : Nat} {x : Str} (hN : X.N.Nodup) (hi : X.N[k]? = some x) (hx : Loc X.env.scope x) (op : Operator) {f : Int → Int → Int} (ho : PIp X op (ipI f)) {i0 : Int} (h0 : ρ[k]? = some (some (.int i0))) (h : JE X e ρ S (fun d S1 => ∃ j, d = .int j ∧ PO (.nx (ρ.set k (some (.int (f i0 j)))) S1)) B)
    (hf : X.fn x = true ∨ X.env.scope.names.lookup x = some .local := by first | exact .inl rfl | exact .inr rfl | assumption) : JS n X (.AugAssign (.Name x pos') op e pos) ρ S PO B :=
  js_of (ps_aug hN hi hx pe_w ho hf) fun u σ H Dd hn hW hS hE hP => by
    obtain ⟨v, hv, r⟩ := hE.get k _ h0
    cases r
    refine ⟨_, hv, h u σ H _ (hW.wish (hS.le hn)) hS hE fun w H1 ⟨u1, d1, S1, A1, hS1, r1, j, e1, q⟩ => ?_⟩
    subst e1
    cases r1
    exact ⟨i0, j, rfl, rfl, hP.nx _ H1 (GoodE.of hn hS A1 hS1 ((hE.adv A1).set (.int _)) q)⟩
/-- a class of the language as a value -/
theorem je_ty {x : Str} {T : String} (hg : Gl X x) (hm : X.mg x = none) (hv : bootBuiltins x = some (.type T)) (h : P (.val (.ty T)) S) (hn : x ≠ "__name__" := by decide) (hd : (x == ("__debug__" : Str)) = false := by decide) : JE X (.Name x pos) ρ S P B :=
  je_of (pe_bltn hg hm hv (v := .ty T) rfl hn hd) fun u σ H Q hW hS hE hQ => hQ _ H (.here hS (.val _) h)
/-- a global of the module -/
theorem je_glob {x : Str} {v : V} {w : Value} (hg : Gl X x) (hm : X.mg x = some w) (r : RelV v w) (h : P (.val v) S) (hd : (x == ("__debug__" : Str)) = false := by decide) : JE X (.Name x pos) ρ S P B :=
  je_of (pe_glob hg hm r hd) fun u σ H Q hW hS hE hQ => hQ _ H (.here hS (.val _) h)
def tyS (S : Store) : D → Option String
  | .non => some "NoneType"
  | .bl _ => some "bool"
  | .int _ => some "int"
  | .str _ => some "str"
  | .tup _ => some "tuple"
  | .lst _ => some "list"
  | .ptr k => match S[k]? with
    | some (.lst _) => some "list"
    | some (.dK _) => some "dict"
    | some (.dT _) => some "dict"
    | _ => none
  | .val _ => none
theorem ty_of {K : PySem.W.Frag} {u : Mu} {H : Hp} {v : V} {d : D} {t : String} (hS : StoR K u H S) (r : Rp K u H v d) (h : tyS S d = some t) : TyX K H v (.type t) := by
  cases r with
  | non => cases h; exact .base .non
  | bl b => cases h; exact .base (.bl b)
  | int i => cases h; exact .base (.int i)
  | str x => cases h; exact .base (.str x)
  | lst h1 _ => cases h; exact .base (.lst h1.1)
  | tup h1 _ =>
    cases h
    rcases h1 with ⟨h1 | ⟨o, h1⟩, _⟩ | (h1 | ⟨o, h1⟩) | ⟨o, _, _, h1, h2, _⟩
    · exact .base (.tup h1)
    · exact .fTuple h1
    · cases h1
    · cases h1
    · exact .kTuple h1 h2
  | ptr hk =>
    simp only [tyS] at h
    split at h
    · rename_i hs; cases h
      rcases hS.sto _ _ hs with z | ⟨a', ha', vs, h1, _⟩
      · cases z
      · rw [hk] at ha'; cases ha'; exact .base (.lst h1)
    · rename_i hs; cases h
      rcases hS.sto _ _ hs with z | ⟨a', ha', vs, h1, _⟩
      · cases z
      · rw [hk] at ha'; cases ha'; exact .base (.dK h1)
    · rename_i hs; cases h
      rcases hS.sto _ _ hs with z | ⟨a', ha', vs, h1, _⟩
      · cases z
      · rw [hk] at ha'; cases ha'; exact .base (.dT h1)
    · cases h
  | val v => cases h
theorem je_isi (hg : Gl X "isinstance") (hm : X.mg "isinstance" = none) (h : JA X (e :: es) ρ S (fun ds S1 => ∃ d T t k, ds = [d, .val (.ty T)] ∧ tyS S1 d = some t ∧ kitB t T = some k ∧ P (.bl k) S1) B) (he : Plain1 X e es := by rfl) (hpl : (backTo pos (starEach es X.env)).any (·.1) = false := by rfl) : JE X (.Call (.Name "isinstance" p) (e :: es) [] pos) ρ S P B :=
  je_callB call_isi hg hm bb_isinstance (h.mono fun ds S ⟨d, T, t, k, e1, e2, e3, q⟩ u H vs Q hS r hQ => by
    subst e1
    obtain ⟨v, w, rfl, r0, r'⟩ := rpA2 r
    cases r'
    exact ⟨v, _, _, _, k, rfl, .ty T, ty_of hS r0 e2, kit_ty e3, hQ _ H (.here hS (.bl _) q)⟩) (by decide) (by decide) he hpl
/-- slices of lists -/
def cutD (xs : List D) (lo hi : Option Int) : List D := (xs.drop (HT.sIx xs.length 0 lo)).take (HT.sIx xs.length xs.length hi - HT.sIx xs.length 0 lo)
theorem cut_rp {K : PySem.W.Frag} {u : Mu} {H : Hp} {vs : List V} {xs : List D} (r : RpA K u H vs xs) (lo hi : Option Int) : RpA K u H (cutV vs lo hi) (cutD xs lo hi) := by
  unfold cutV cutD
  rw [r.length]
  exact (r.drop _).take _
def tO (X : Cx) : Option Expr → TO
  | none => tNoPart
  | some e => tPart (wE X e)
theorem po_w : ∀ {oe : Option Expr}, L2.PO X oe (tO X oe)
  | none => po_none
  | some _ => po_some pe_w
def JO (X : Cx) (ρ : Sl) (B : Bad) : Option Expr → Store → (Option Int → Store → Prop) → Prop
  | none, S, k => k none S
  | some e, S, k => JE X e ρ S (fun d S1 => ∃ i, d = .int i ∧ k (some i) S1) B
theorem jo_run {u : Mu} {σ : L2.St} {H : Hp} {k : Option Int → Store → Prop} {Q : Option Int → Hp → Prop} {oe : Option Expr} (h : JO X ρ B oe S k) (hW : Wish X B u H) (hS : StoR X.K u H S) (hE : EnvV X.K u H σ ρ)
    (hQ : ∀ l H' u' S', Adv u.m.length u H u' H' → StoR X.K u' H' S' → k l S' → Q l H') : tO X oe σ H Q := by
  cases oe with
  | none => exact hQ none H u S (.refl _ _ _) hS h
  | some e =>
    refine h u σ H _ hW hS hE fun v H1 g => ?_
    obtain ⟨u1, d1, S1, A1, hS1, r1, i, e1, q⟩ := g
    subst e1
    cases r1
    exact ⟨i, rfl, hQ _ H1 u1 S1 A1 hS1 q⟩
theorem je_slice {lo hi : Option Expr} {p2 : Pos} (h : JE X a ρ S (fun d S1 => JO X ρ B lo S1 fun l S2 => JO X ρ B hi S2 fun r S3 => ∃ xs, res S3 d = .lst xs ∧ P (.lst (cutD xs l r)) S3) B) : JE X (.Subscript a (.Slice lo hi none p2) pos) ρ S P B :=
  je_of (pe_slice sl_list pe_w po_w po_w) fun u σ H Q hW hS hE hQ => h u σ H _ hW hS hE fun v H1 ⟨u1, d1, S1, A1, hS1, r1, h1⟩ =>
    jo_run h1 (hW.after A1) hS1 (hE.adv A1) fun l H2 u2 S2 A2 hS2 h2 => jo_run h2 (hW.after (A1.tr A2)) hS2 (hE.adv (A1.tr A2)) fun r H3 u3 S3 A3 hS3 h3 => by
      obtain ⟨xs, e, q⟩ := h3
      obtain ⟨b, vs, rfl, g1, ra⟩ := res_lst hS3 ((r1.go A2).go A3) e
      exact ⟨b, vs, rfl, .inl (.inl g1), fun p hp => hQ _ _ ((good_lst hS3 hp (cut_rp ra l r) q).after (A1.tr (A2.tr A3)))⟩
theorem je_sliceP {lo hi : Option Expr} {p2 : Pos} (h : JE X a ρ S (fun d S1 => JO X ρ B lo S1 fun l S2 => JO X ρ B hi S2 fun r S3 => ∃ xs, res S3 d = .lst xs ∧ P (.ptr S3.length) (S3 ++ [.lst (cutD xs l r)])) B) : JE X (.Subscript a (.Slice lo hi none p2) pos) ρ S P B :=
  je_of (pe_slice sl_list pe_w po_w po_w) fun u σ H Q hW hS hE hQ => h u σ H _ hW hS hE fun v H1 ⟨u1, d1, S1, A1, hS1, r1, h1⟩ =>
    jo_run h1 (hW.after A1) hS1 (hE.adv A1) fun l H2 u2 S2 A2 hS2 h2 => jo_run h2 (hW.after (A1.tr A2)) hS2 (hE.adv (A1.tr A2)) fun r H3 u3 S3 A3 hS3 h3 => by
      obtain ⟨xs, e, q⟩ := h3
      obtain ⟨b, vs, rfl, g1, ra⟩ := res_lst hS3 ((r1.go A2).go A3) e
      exact ⟨b, vs, rfl, .inl (.inl g1), fun p hp => hQ _ _ ((good_ptr hS3 hp (cut_rp ra l r) q).after (A1.tr (A2.tr A3)))⟩
/-- targets of an assignment: a, b = a tuple -/
theorem js_unpack {tgE : Expr} (tg : Tg) (hg : PG X tgE (tg.g X.K)) (h : JE X e ρ S (fun d S1 => ∃ ρ1, tg.set d ρ = some ρ1 ∧ PO (.nx ρ1 S1)) B) (hs : swapsWithSole [tgE] e pos.line X.env = pure false := by rfl) (hw : swappedStores [tgE] e X.env = pure none := by rfl)
    (h1 : (assignEach [tgE] X.env).map (·.2) = [assign tgE X.env] := by rfl) : JS n X (.Assign [tgE] e pos) ρ S PO B :=
  js_of (ps_asg pe_w hg hs hw h1) fun u σ H Dd hn hW hS hE hP => h u σ H _ (hW.wish (hS.le hn)) hS hE fun v H1 ⟨u1, d1, S1, A1, hS1, r1, ρ1, e1, q⟩ => Tg.ok e1 r1 (hE.adv A1) fun σ' hE' _ => hP.nx σ' H1 (GoodE.of hn hS A1 hS1 hE' q)
end

/-! ### a def's body keeps its promise -/
def startD (N : List Str) (ds : List D) : Sl := ds.map some ++ List.replicate (N.length - ds.length) none
theorem start_env {K : PySem.W.Frag} {u : Mu} {H : Hp} {N : List Str} {vs : List V} {ds : List D} (r : RpA K u H vs ds) : EnvV K u H (start N vs) (startD N ds) := by
  refine ⟨by unfold startD L2.start; simp [r.length], fun i d e => ?_⟩
  unfold startD at e
  by_cases hi : i < ds.length
  · rw [List.getElem?_append_left (by simpa using hi), List.getElem?_map] at e
    cases q : ds[i]? with
    | none => rw [q] at e; cases e
    | some d' =>
      rw [q] at e; cases e
      obtain ⟨v, h1, h2⟩ := r.of q
      refine ⟨v, ?_, h2⟩
      unfold L2.start
      rw [List.getElem?_append_left (by simp [r.length]; exact hi), List.getElem?_map, h1]; rfl
  · rw [List.getElem?_append_right (by simpa using hi), List.getElem?_replicate] at e
    split at e <;> cases e
def RetP (PP : D → Store → Prop) : Out → Prop
  | .rt d S => PP d S
  | .nx _ S => PP .non S
  | _ => False
theorem fnG_of {P : Program} {w : World} {K : PySem.W.Frag} {mg : Str → Option Value} {base : Heap} {k : Nat} {f : Addr} {fd : FuncData} {x qual : Str} {st : Stmt} {N ps : List Str} {sp : DSpec} (F : Fun K x qual st f fd) (Sc : FnScope N ps (defScope st))
    (body : ∀ cdv A outer s H E ds S PP EE, let X := cxOf (L2.CX P w) P w K mg base N qual (defScope st) f cdv A outer s H E
      Room k X.A → X.A.guards = some [] → ds.length = ps.length → sp ds S PP EE → JSs S.length X (defBody st) (startD N ds) S (RetP PP) EE) : FnG P w K mg base (k + 1) f fd ps (spD K ps.length sp) := by
  have len : ∀ vs H Q E, spD K ps.length sp vs H Q E → vs.length = ps.length := fun vs H Q E ⟨u, ds, S, PP, EE, a1, a2, a3, _⟩ => a2.length.trans a3
  refine ⟨len, fun A outer s H args us vs Q E hr hgd e0 hb r hsp => ?_⟩
  obtain ⟨oc, od, kV, doc, pm, an, cdv, ct, osl, rfl, lk, hcd⟩ := F.ex
  have hl := len _ _ _ _ hsp
  have KX : K.In s.heap := e0.mod.kin.keeps fun b o e => (e0.bs b o e).1
  have lim : s.heap.NoLimit := e0.mod.nolimit.keeps fun b o e => (e0.bs b o e).1
  have hkind : ∀ y ∈ ps.zip us, (defScope st).names.lookup y.1 = some .local ∨ ((defScope st).names.lookup y.1 = some .cell ∧ ((cellsFrom (s.heap.objs.size + 1) (defScope st).names []).lookup y.1).isSome = true) := fun y hy =>
    (Sc.par y.1 (List.of_mem_zip (show (y.1, y.2) ∈ ps.zip us from hy)).1).imp id fun q => ⟨q, PySem.W.cellsFrom_some _ _ _ (.inl q)⟩
  refine codeAny_call_function hr.depth (KX _ _ lk) rfl Sc.co Sc.gen rfl (PySem.W.codeRec_of KX hcd) (hb _ _ _ _ (wpAny_newFunctionEnv_cells Sc.kind hkind fun env he s1 x1 => ?_))
  subst he
  refine ⟨lim.keeps x1.toInCall.keep, codeAny_func ?_⟩
  obtain ⟨u, ds, S, PP, EE, hS, ra, hn, hs, hQ, hX⟩ := hsp
  have I := inv_start (CX := L2.CX P w) (E := E) Sc hr.hd e0 hl r x1
  have hbd := body cdv A outer s H E ds S PP EE (hr.deeper _) hgd hn hs
  have run := hbd u (start N vs) H { nx := fun _ H' => Q .non H', rt := Q } (Nat.le_refl _) ⟨fun cls dx _ H' => E cls dx H', takes_of rfl rfl rfl rfl, fun cls dx σ' H' g => hX cls dx H' ?_⟩ hS (start_env ra)
    ⟨fun σ' H' g => hQ .non H' ?_, fun v H' g => hQ v H' ?_, fun σ' H' g => ?_, fun σ' H' g => ?_⟩
  · refine wpAny_mono (run [] s1 I) (fun fl s' h' => ?_) fun e s' h' => h'
    cases fl with
    | ret w' => obtain ⟨v, σ', H', J', rv, q⟩ := h'; exact ⟨v, H', J'.os, J'.bare, J'.base, J'.hok, rv, q⟩
    | next => obtain ⟨σ', H', J', q⟩ := h'; exact ⟨.non, H', J'.os, J'.bare, J'.base, J'.hok, rfl, q⟩
    | brk => obtain ⟨_, _, _, q⟩ := h'; exact q.elim
    | cont => obtain ⟨_, _, _, q⟩ := h'; exact q.elim
  · obtain ⟨u', fs, S', A', hS', x', _, b'⟩ := g
    exact ⟨u', fs, S', by rw [hS.len]; exact A', hS', x', b'⟩
  · obtain ⟨u', ρ', S', A', hS', _, _, b'⟩ := g
    exact ⟨u', .non, S', by rw [hS.len]; exact A', hS', .non, b'⟩
  · obtain ⟨u', d', S', A', hS', r', _, b'⟩ := g
    exact ⟨u', d', S', by rw [hS.len]; exact A', hS', r', b'⟩
  · obtain ⟨_, _, _, _, _, _, _, b'⟩ := g; exact b'.elim
  · obtain ⟨_, _, _, _, _, _, _, b'⟩ := g; exact b'.elim
end J
namespace J
open PySem PySem.Spec PyProof.Rows L2
section
variable {X : Cx} {a b c e : Expr} {es : List Expr} {ρ : Sl} {S : Store} {P : D → Store → Prop} {PT : Bool → Store → Prop} {B : Bad} {pos p : Pos}
def CPowX (i j : Int) : Prop := 0 ≤ j ∧ (Builtin.Int.intBits i : Int) * j ≤ 2 ^ 27
theorem op_powX : OpR X (binaryOp .Pow) (rI CPowX fun i j => .int (i ^ j.toNat)) := opI fun _ _ _ _ _ _ _ hc q => pow_int hc.1 hc.2 q
theorem je_powX (h : JE X a ρ S (fun d1 S1 => JE X b ρ S1 (fun d2 S2 => intW d1 d2 fun i j => CPowX i j ∧ P (.int (i ^ j.toNat)) S2) B) B) : JE X (.BinOp a .Pow b pos) ρ S P B := je_op op_powX (h.mono fun _ _ q => q.mono fun _ _ q => od_intC (f := fun i j => .int (i ^ j.toNat)) (fun _ _ _ _ _ => .int _) q)
theorem intW.out {d1 d2 : D} {k : Int → Int → Prop} (h : intW d1 d2 k) : ∃ i j, d1 = .int i ∧ d2 = .int j ∧ k i j := by
  unfold intW at h
  split at h
  · exact ⟨_, _, rfl, rfl, h⟩
  · exact h.elim
/-- a <= b <= c of ints -/
def leleW (d1 d2 d3 : D) (k : Int → Int → Int → Prop) : Prop := match d1, d2, d3 with
  | .int i, .int j, .int l => k i j l
  | _, _, _ => False
theorem je_chain {o1 o2 : CmpOp} {g1 g2 : Int → Int → Bool} (h1 : OpR X (compareOp o1) (rI0 fun i j => .bl (g1 i j))) (h2 : OpR X (compareOp o2) (rI0 fun i j => .bl (g2 i j)))
    (h : JE X a ρ S (fun d1 S1 => JE X b ρ S1 (fun d2 S2 => intW d1 d2 fun i j => (g1 i j = false → P (.bl false) S2) ∧ (g1 i j = true → JE X c ρ S2 (fun d3 S3 => intW d2 d3 fun j l => P (.bl (g2 j l)) S3) B)) B) B)
    (hm : lastMarks [o1, o2] [b, c] = false := by with_unfolding_all rfl) : JE X (.Compare a [o1, o2] [b, c] pos) ρ S P B :=
  je_of (pe_chain h1 h2 pe_w pe_w pe_w hm) fun u σ H Q hW hS hE hQ => h u σ H _ hW hS hE fun v1 H1 ⟨u1, d1, S1, A1, hS1, r1, q1⟩ => q1 u1 σ H1 _ (hW.after A1) hS1 (hE.adv A1) fun v2 H2 ⟨u2, d2, S2, A2, hS2, r2, q2⟩ => by
    have r1' := r1.go A2
    obtain ⟨i, j, e1, e2, q2⟩ := intW.out q2
    subst e1 e2
    cases r1'; cases r2
    refine ⟨i, j, rfl, rfl, _, rfl, ?_⟩
    cases hk : g1 i j with
    | false => exact iteF (hQ _ _ ⟨u2, _, S2, A1.tr A2, hS2, .bl _, q2.1 hk⟩)
    | true =>
      refine iteT (q2.2 hk u2 σ H2 _ (hW.after (A1.tr A2)) hS2 (hE.adv (A1.tr A2)) fun v3 H3 ⟨u3, d3, S3, A3, hS3, r3, q5⟩ => ?_)
      obtain ⟨i', l, e1, e2, q5⟩ := intW.out q5
      cases e1
      subst e2
      cases r3
      exact ⟨_, _, rfl, rfl, hQ _ _ ⟨u3, _, S3, A1.tr (A2.tr A3), hS3, .bl _, q5⟩⟩
theorem jt_chain2 {o1 o2 : CmpOp} {g1 g2 : Int → Int → Bool} (h1 : OpR X (compareOp o1) (rI0 fun i j => .bl (g1 i j))) (h2 : OpR X (compareOp o2) (rI0 fun i j => .bl (g2 i j)))
    (h : JE X a ρ S (fun d1 S1 => JE X b ρ S1 (fun d2 S2 => intW d1 d2 fun i j => (g1 i j = false → PT false S2) ∧ (g1 i j = true → JE X c ρ S2 (fun d3 S3 => intW d2 d3 fun j l => PT (g2 j l) S3) B)) B) B)
    (hm : lastMarks [o1, o2] [b, c] = false := by with_unfolding_all rfl) : JT X (.Compare a [o1, o2] [b, c] pos) ρ S PT B :=
  jt_of (pt_chain h1 h2 pe_w pe_w pe_w hm) fun u σ H Q hW hS hE hQ => h u σ H _ hW hS hE fun v1 H1 ⟨u1, d1, S1, A1, hS1, r1, q1⟩ => q1 u1 σ H1 _ (hW.after A1) hS1 (hE.adv A1) fun v2 H2 ⟨u2, d2, S2, A2, hS2, r2, q2⟩ => by
    have r1' := r1.go A2
    obtain ⟨i, j, e1, e2, q2⟩ := intW.out q2
    subst e1 e2
    cases r1'; cases r2
    refine ⟨i, j, rfl, rfl, _, rfl, ?_⟩
    cases hk : g1 i j with
    | false => exact iteF ⟨_, rfl, hQ _ _ ⟨u2, S2, A1.tr A2, hS2, q2.1 hk⟩⟩
    | true =>
      refine iteT (q2.2 hk u2 σ H2 _ (hW.after (A1.tr A2)) hS2 (hE.adv (A1.tr A2)) fun v3 H3 ⟨u3, d3, S3, A3, hS3, r3, q5⟩ => ?_)
      obtain ⟨i', l, e1, e2, q5⟩ := intW.out q5
      cases e1
      subst e2
      cases r3
      exact ⟨_, _, rfl, rfl, _, rfl, hQ _ _ ⟨u3, S3, A1.tr (A2.tr A3), hS3, q5⟩⟩
/-- the script's slice -/
theorem je_script {i : Nat} {x : Str} {q : Addr} {ns : List Int} {lo hi : Option Int} {elo ehi : Option Expr} {pn p2 : Pos} (hN : X.N[i]? = some x) (hv : Vis X.env.scope x) (hd : ρ[i]? = some (some (.val (.ref q)))) (hscr : ∀ pins σ H s, Inv X pins σ H s → SqL X.K H q (ns.map V.int))
    (hlo : ∀ σ H (k : Option Int → Hp → Prop), k lo H → tO X elo σ H k) (hhi : ∀ σ H (k : Option Int → Hp → Prop), k hi H → tO X ehi σ H k)
    (h : P (.lst (cutD (intsD ns) lo hi)) S) (h1 : (x == ("__debug__" : Str)) = false := by decide) (h2 : (x == ("__classdict__" : Str)) = false := by decide) : JE X (.Subscript (.Name x pn) (.Slice elo ehi none p2) pos) ρ S P B := fun u σ H Q hW hS hE hQ pins s I => by
  obtain ⟨v, hv', r⟩ := hE.get i _ hd
  cases r
  exact wE_of (pe_slice sl_list (pe_var hN hv h1 h2) po_w po_w) ⟨_, hv', hlo σ H _ (hhi σ H _ ⟨q, _, rfl, hscr pins σ H s I, fun l hl => hQ _ _ (good_lst hS hl (cut_rp (intsD_rp ns) lo hi) h)⟩)⟩ pins s I
theorem tO_int {i : Int} {j} {p2 : Pos} : ∀ σ H (k : Option Int → Hp → Prop), k (some i) H → tO X (some (.Constant (.int i) j p2)) σ H k := fun σ H k h => wE_of pe_int ⟨i, rfl, h⟩
theorem tO_none : ∀ σ H (k : Option Int → Hp → Prop), k none H → tO X none σ H k := fun σ H k h => h
end

/-! ### the end of a law -/
theorem fnG_raw {P : Program} {w : World} {K : PySem.W.Frag} {mg : Str → Option Value} {base : Heap} {k : Nat} {f : Addr} {fd : FuncData} {x qual : Str} {st : Stmt} {N ps : List Str} {sp : Sp} (F : Fun K x qual st f fd) (Sc : FnScope N ps (defScope st)) (len : ∀ vs H Q E, sp vs H Q E → vs.length = ps.length)
    (body : ∀ cdv A outer s H vs Q E, let X := cxOf (L2.CX P w) P w K mg base N qual (defScope st) f cdv A outer s H E
      Room k X.A → X.A.guards = some [] → sp vs H Q E → wSs X (defBody st) { nx := fun _ H' => Q .non H', rt := Q } (L2.start N vs) H) : FnG P w K mg base (k + 1) f fd ps sp := by
  refine ⟨len, fun A outer s H args us vs Q E hr hgd e0 hb r hsp => ?_⟩
  obtain ⟨oc, od, kV, doc, pm, an, cdv, ct, osl, rfl, lk, hcd⟩ := F.ex
  have hl := len _ _ _ _ hsp
  have KX : K.In s.heap := e0.mod.kin.keeps fun b o e => (e0.bs b o e).1
  have lim : s.heap.NoLimit := e0.mod.nolimit.keeps fun b o e => (e0.bs b o e).1
  have hkind : ∀ y ∈ ps.zip us, (defScope st).names.lookup y.1 = some .local ∨ ((defScope st).names.lookup y.1 = some .cell ∧ ((cellsFrom (s.heap.objs.size + 1) (defScope st).names []).lookup y.1).isSome = true) := fun y hy =>
    (Sc.par y.1 (List.of_mem_zip (show (y.1, y.2) ∈ ps.zip us from hy)).1).imp id fun q => ⟨q, PySem.W.cellsFrom_some _ _ _ (.inl q)⟩
  refine codeAny_call_function hr.depth (KX _ _ lk) rfl Sc.co Sc.gen rfl (PySem.W.codeRec_of KX hcd) (hb _ _ _ _ (wpAny_newFunctionEnv_cells Sc.kind hkind fun env he s1 x1 => ?_))
  subst he
  refine ⟨lim.keeps x1.toInCall.keep, codeAny_func ?_⟩
  have I := inv_start (CX := L2.CX P w) (E := E) Sc hr.hd e0 hl r x1
  refine wpAny_mono (body cdv A outer s H vs Q E (hr.deeper _) hgd hsp [] s1 I) (fun fl s' h' => ?_) fun e s' h' => h'
  cases fl with
  | ret w' => obtain ⟨v, σ', H', J', rv, q⟩ := h'; exact ⟨v, H', J'.os, J'.bare, J'.base, J'.hok, rv, q⟩
  | next => obtain ⟨σ', H', J', q⟩ := h'; exact ⟨.non, H', J'.os, J'.bare, J'.base, J'.hok, rfl, q⟩
  | brk => obtain ⟨_, _, _, q⟩ := h'; exact q.elim
  | cont => obtain ⟨_, _, _, q⟩ := h'; exact q.elim
/-- what a law's own def is to keep: the script at a; True comes back, nothing is raised -/
def spLaw (K : PySem.W.Frag) (C : List Int → Prop) : Sp := fun vs H Q _ => ∃ (a : Addr) (ns : List Int), vs = [.ref a] ∧ C ns ∧ Only H ∧ SqL K H a (ns.map V.int) ∧ ∀ H', Q (.bl true) H'
theorem scr_stays {X : Cx} {a : Addr} {xs : List V} (hO : Only X.H_0) (h : SqL X.K X.H_0 a xs) : ∀ pins σ H s, Inv X pins σ H s → SqL X.K H a xs := fun pins σ H s I => by
  rcases h with (h | ⟨o, h⟩) | h
  · rcases hO a with z | ⟨o, ys, z⟩ <;> rw [h] at z <;> cases z
  · exact .inl (.inr ⟨o, I.base.frzs _ _ _ h⟩)
  · exact .inr h
theorem law_def {P : Program} {w : World} {K : PySem.W.Frag} {mg : Str → Option Value} {base : Heap} {k : Nat} {f : Addr} {fd : FuncData} {qual x : Str} {st : Stmt} {N : List Str} {C : List Int → Prop} (F : Fun K "law" qual st f fd) (Sc : FnScope N [x] (defScope st))
    (body : ∀ cdv A outer s H E a ns, let X := cxOf (L2.CX P w) P w K mg base N qual (defScope st) f cdv A outer s H E
      Room k X.A → X.A.guards = some [] → C ns → (∀ pins σ H s, Inv X pins σ H s → SqL X.K H a (ns.map V.int)) → JSs 0 X (defBody st) (startD N [.val (.ref a)]) [] (RetP fun d _ => d = .bl true) B0) : FnG P w K mg base (k + 1) f fd [x] (spLaw K C) := by
  refine fnG_raw F Sc (fun vs H Q E ⟨a, ns, e, _⟩ => by rw [e]; rfl) fun cdv A outer s H vs Q E hr hgd h => ?_
  obtain ⟨a, ns, rfl, hc, hO, hS, hQ⟩ := h
  have sc := scr_stays (X := cxOf (L2.CX P w) P w K mg base N qual (defScope st) f cdv A outer s H E) hO hS
  refine body cdv A outer s H E a ns hr hgd hc sc ⟨[], []⟩ (L2.start N [.ref a]) H _ (Nat.zero_le _) ⟨fun _ _ _ _ => False, takes0, fun _ _ _ _ ⟨_, _, _, _, _, _, _, z⟩ => z⟩ ⟨rfl, fun i j b e => by simp at e, fun b hb => by simp at hb, fun b hb => by simp at hb, fun k c e => by simp at e⟩ (start_env (.cons (.val _) .nil)) ?_
  have fin : ∀ {v : V} {d : D} {u : Mu} {H' : Hp}, Rp K u H' v d → d = .bl true → Q v H' := fun r e => by
    subst e
    cases r
    exact hQ _
  refine ⟨fun σ' H' g => ?_, fun v H' g => ?_, fun σ' H' g => ?_, fun σ' H' g => ?_⟩
  · obtain ⟨_, _, _, _, _, _, _, q⟩ := g
    cases q
  · obtain ⟨_, _, _, _, _, r, _, q⟩ := g
    exact fin r q
  · obtain ⟨_, _, _, _, _, _, _, q⟩ := g
    exact q.elim
  · obtain ⟨_, _, _, _, _, _, _, q⟩ := g
    exact q.elim
/-- from the promise of the law's def to the run of its call -/
theorem law_run {P : Program} {w : World} {K : PySem.W.Frag} {mg mb : Str → Option Value} {k : Nat} {fa a : Addr} {fd : FuncData} {x : Str} {C : List Int → Prop} {s1 : Shared} {vs : List Value} {ns : List Int}
    (KX : K.In s1.heap) (hns : s1.heap.Ns mainGlobals mg) (hb : s1.heap.Ns builtinsNs mb) (hbb : ∀ x : Str, x ≠ "__name__" → mb x = bootBuiltins x) (hlim : s1.heap.NoLimit) (hg : s1.gens = #[])
    (ha : s1.heap.get? a = some { cls := .type "list", data := .seq vs.toArray }) (hi : IntsAre vs ns) (hl : ns.length ≤ sizeLine) (hr : Room k callerA) (hC : C ns)
    (F : ∀ base : Heap, K.In base → base.Ns mainGlobals mg → FnG P w K mg base k fa fd [x] (spLaw K C)) (hbind : ∀ (s : Shared) (u : Value), BindsTo s fd ⟨[u], []⟩ [(x, u)]) :
    codeAny (model P w) callerA (.call (.ref fa) ⟨[.ref a], []⟩) (fun r s' => r = .ok (.ret (.bool true)) ∧ OldK s1.heap s'.heap ∧ s'.os = s1.os ∧ AllBare s'.gens) s1 := by
  have go : ∀ H : Hp, Only H → SqL K H a (ns.map V.int) → HOk P w H s1.heap → (∀ b o, H b = some o → b = a ∧ K.lookup a = none) →
      codeAny (model P w) callerA (.call (.ref fa) ⟨[.ref a], []⟩) (fun r s' => r = .ok (.ret (.bool true)) ∧ OldK s1.heap s'.heap ∧ s'.os = s1.os ∧ AllBare s'.gens) s1 := fun H hO hS hok hH => by
    have free : ∀ {b : Addr}, b ≠ a → H b = none := fun {b} hb => by
      cases q : H b with
      | none => rfl
      | some o => exact absurd (hH b o q).1 hb
    have ns2 : ∀ {b : Addr} {m : Str → Option Value}, s1.heap.Ns b m → (hidT s1.heap H).Ns b m := fun {b m} ⟨o, es, ep, e, d, r⟩ => ⟨o, es, ep, hidT_get e (free fun z => by
      rw [z, ha] at e; cases e; cases d), d, r⟩
    have kb : K.In (hidT s1.heap H) := fun b o e => hidT_get (KX b o e) (by
      cases q : H b with
      | none => rfl
      | some z =>
        obtain ⟨z1, z2⟩ := hH b z q
        rw [z1, z2] at e; cases e)
    have md : Mod K mg (hidT s1.heap H) := ⟨kb, ns2 hns, ⟨mb, ns2 hb, hbb⟩, let ⟨mc, h1, h2⟩ := hlim; ⟨mc, ns2 h1, h2⟩⟩
    have e0 : Env0 P w K mg (hidT s1.heap H) callerA [] s1 H := ⟨rfl, md, fun b o e => of_hidT e, Nat.le_of_eq (hidT_size _ _), trivial, fun b hb => (by cases hb), hok, .of_eq hg⟩
    refine codeAny_mono ((F _ kb (ns2 hns)).run callerA [] s1 H ⟨[.ref a], []⟩ [.ref a] [.ref a] (fun v _ => v = .bl true) (fun _ _ _ => False) hr rfl e0 (hbind s1 (.ref a)) (.cons rfl .nil) ⟨a, ns, rfl, hC, hO, hS, fun _ => rfl⟩) fun r s' h => ?_
    cases r with
    | error e =>
      obtain ⟨_, _, _, _, _, _, _, _, _, _, _, _, z⟩ := h
      exact z.elim
    | ok fl => cases fl with
      | next => exact h.elim
      | brk => exact h.elim
      | cont => exact h.elim
      | ret u =>
        obtain ⟨v, H', os, bare, un, hok', r', q⟩ := h
        cases (show v = .bl true from q)
        cases (show u = Value.bool true from r')
        refine ⟨rfl, OldK.of_keep fun b o e => ?_, os, bare⟩
        rcases hO b with z | ⟨ob, xs, z⟩
        · exact un.keep b o e z (fun hm => (by cases hm)) (fun hm => (by cases hm))
        · have e1 := (hok b _ z).1
          have e2 := (hok' b _ (un.frzs b ob _ z)).1
          rw [e] at e1; cases e1
          exact e2
  cases hk : K.lookup a with
  | some o =>
    have e := KX a o hk
    rw [ha] at e
    cases e
    exact go (fun _ => none) (fun _ => .inl rfl) (.inr ⟨_, vs.toArray, _, hk, rfl, rfl, rfl, by rw [List.size_toArray, hi.length]; exact hl, by simpa using vals_ints hi⟩) (fun b u z => nomatch z) (fun b o z => nomatch z)
  | none =>
    have at_ : ∀ b o, (if b = a then some (HO.frz { cls := .type "list", data := .seq vs.toArray } (.lst (ns.map V.int))) else none) = some o → b = a ∧ o = .frz { cls := .type "list", data := .seq vs.toArray } (.lst (ns.map V.int)) := fun b o z => by
      split at z
      · rename_i hb; cases z; exact ⟨hb, rfl⟩
      · cases z
    refine go (fun b => if b = a then some (.frz { cls := .type "list", data := .seq vs.toArray } (.lst (ns.map V.int))) else none) (fun b => ?_) (.inl (.inr ⟨_, if_pos rfl⟩)) (fun b o z => ?_) fun b o z => ⟨(at_ b o z).1, hk⟩
    · by_cases hb : b = a
      · exact .inr ⟨_, _, if_pos hb⟩
      · exact .inl (if_neg hb)
    · obtain ⟨z1, z2⟩ := at_ b o z
      subst z1 z2
      exact ⟨ha, by rw [List.length_map]; exact hl, vs, _, vals_ints hi, ha⟩
theorem walk_law {l : PySem.W.OpenLaw} {n k : Nat} {q : Program} {loose : List Str} {XP : (Str → Option Value) → Heap → Prop} {YP : World → Heap → Prop} {d : DefRec} {K : Params → PySem.W.Frag} {x : Str}
    (hn : l.most = some n) (hn2 : n ≤ sizeLine) (hdf : d.params.defaults = []) (hr : Room k callerA) (hY : ∀ (w : World) (h : Heap), YP w h → (K w.params).In h)
    (F : ∀ (w : World) (mg : Str → Option Value) (fa : Addr) (h : Heap), (K w.params).In h → h.Ns mainGlobals mg → mg d.name = some (.ref fa) →
      ∃ fd : FuncData, (∀ (s : Shared) (u : Value), BindsTo s fd ⟨[u], []⟩ [(x, u)]) ∧ ∀ base : Heap, (K w.params).In base → base.Ns mainGlobals mg → FnG l.prog w (K w.params) mg base k fa fd [x] (spLaw (K w.params) fun ns => ns.length ≤ n ∧ ∀ z ∈ ns, Builtin.Int.intBits z ≤ 1048576)) :
    PySem.W.WalkO q loose XP YP l.row.toRowW d [] (fun f vs => PySem.call f vs) := by
  refine Att.attach_callB hn hdf fun w s0 s1 mg mb fa o pm cd doc a vs ns G Y ho hd hcd hmg hobj hints hlen hbits hg => ?_
  obtain ⟨fd, hb, hF⟩ := F w mg fa _ (hY w _ Y) G.T.g hmg
  exact law_run (hY w _ Y) G.T.g G.T.b G.T.builtins G.T.nolimit hg hobj hints (Nat.le_trans hlen hn2) hr ⟨hlen, hbits⟩ hF hb
end J
namespace J
open PySem PySem.Spec PyProof.Rows L2
/-! ### short words -/
theorem okT {A B : Prop} (h : A) : (true = true → A) ∧ (true = false → B) := ⟨fun _ => h, fun z => nomatch z⟩
theorem okF {A B : Prop} (h : B) : (false = true → A) ∧ (false = false → B) := ⟨(fun z => nomatch z), fun _ => h⟩
theorem orT {A B : Prop} (h : B) : (true = false → A) ∧ (true = true → B) := ⟨(fun z => nomatch z), fun _ => h⟩
theorem orF {A B : Prop} (h : A) : (false = false → A) ∧ (false = true → B) := ⟨fun _ => h, fun z => nomatch z⟩
theorem intW_mk {i j : Int} {k : Int → Int → Prop} (h : k i j) : intW (.int i) (.int j) k := h
theorem addW_int {S : Store} {i j : Int} {P : D → Store → Prop} (h : P (.int (i + j)) S) : addW S (.int i) (.int j) P := h
theorem addW_lst {S : Store} {x y : List D} {P : D → Store → Prop} (hl : x.length + y.length ≤ sizeLine) (h : P (.lst (x ++ y)) S) : addW S (.lst x) (.lst y) P := ⟨hl, h⟩
theorem lenW_lst {S : Store} {x : List D} {P : D → Store → Prop} (h : P (.int x.length) S) : lenW S [.lst x] P := h
theorem lenW_tup {S : Store} {x : List D} {P : D → Store → Prop} (h : P (.int x.length) S) : lenW S [.tup x] P := h
theorem intCW_int {S : Store} {i : Int} {P : D → Store → Prop} (h : P (.int i) S) : intCW S [.int i] P := h
theorem intCW_bl {S : Store} {t : Bool} {P : D → Store → Prop} (h : P (.int (if t then 1 else 0)) S) : intCW S [.bl t] P := h
theorem ixW_lst {S : Store} {x : List D} {i : Int} {d : D} {P : D → Store → Prop} (e : atI x i = some d) (h : P d S) : ixW S (.lst x) (.int i) P := ⟨d, e, h⟩
theorem ixW_tup {S : Store} {x : List D} {i : Int} {d : D} {P : D → Store → Prop} (e : atI x i = some d) (h : P d S) : ixW S (.tup x) (.int i) P := ⟨d, e, h⟩
theorem ixW_ptr {S : Store} {x : List D} {n : Nat} {i : Int} {d : D} {P : D → Store → Prop} (hs : S[n]? = some (.lst x)) (e : atI x i = some d) (h : P d S) : ixW S (.ptr n) (.int i) P := by
  have e1 : res S (.ptr n) = .lst x := by simp only [res, hs]
  unfold ixW
  rw [e1]
  exact ⟨d, e, h⟩
/-! == of typed data -/
theorem eqOk_int (i : Int) : eqOk (.int i) := ⟨rfl, rfl⟩
theorem eqOk_non : eqOk .non := ⟨rfl, rfl⟩
theorem eqOk_bl (b : Bool) : eqOk (.bl b) := ⟨rfl, rfl⟩
/-- flat lists, lists of lists: depth and strs are bounded -/
def Fits (n : Nat) (d : D) : Prop := d.pure = true ∧ d.py.canLay0 = true ∧ d.py.depth ≤ n
theorem Fits.ok {n : Nat} {d : D} (h : Fits n d) (hn : n ≤ 64) : eqOk d := ⟨h.1, by unfold SeqAt.shaped; rw [h.2.1, decide_eq_true (Nat.le_trans h.2.2 hn)]; rfl⟩
theorem fits_int (i : Int) : Fits 0 (.int i) := ⟨rfl, rfl, Nat.le_refl _⟩
theorem fits_bl (i : Bool) : Fits 0 (.bl i) := ⟨rfl, rfl, Nat.le_refl _⟩
theorem fits_non : Fits 0 .non := ⟨rfl, rfl, Nat.le_refl _⟩
theorem Fits.up {n m : Nat} {d : D} (h : Fits n d) (hm : n ≤ m) : Fits m d := ⟨h.1, h.2.1, Nat.le_trans h.2.2 hm⟩
theorem fitsA {n : Nat} : ∀ {ds : List D}, (∀ d ∈ ds, Fits n d) → pureA ds = true ∧ PyData.canLayAll0 (pyA ds) = true ∧ PyData.depthAll (pyA ds) ≤ n
  | [], _ => ⟨rfl, rfl, Nat.zero_le _⟩
  | d :: ds, h => by
    have h1 := h d List.mem_cons_self
    have h2 := fitsA fun e he => h e (List.mem_cons_of_mem _ he)
    refine ⟨?_, ?_, ?_⟩
    · simp only [pureA, h1.1, h2.1, Bool.and_self]
    · simp only [pyA, PyData.canLayAll0, h1.2.1, h2.2.1, Bool.and_self]
    · simp only [pyA, PyData.depthAll]
      exact Nat.max_le.mpr ⟨h1.2.2, h2.2.2⟩
theorem fits_lst {n : Nat} {ds : List D} (h : ∀ d ∈ ds, Fits n d) : Fits (n + 1) (.lst ds) := by
  obtain ⟨a, b, c⟩ := fitsA h
  refine ⟨by simpa only [D.pure] using a, by simpa only [D.py, PyData.canLay0] using b, ?_⟩
  simp only [D.py, PyData.depth]
  omega
theorem fits_tup {n : Nat} {ds : List D} (h : ∀ d ∈ ds, Fits n d) : Fits (n + 1) (.tup ds) := by
  obtain ⟨a, b, c⟩ := fitsA h
  refine ⟨by simpa only [D.pure] using a, by simpa only [D.py, PyData.canLay0] using b, ?_⟩
  simp only [D.py, PyData.depth]
  omega
theorem fits_ints (ns : List Int) : Fits 1 (.lst (intsD ns)) := fits_lst fun d hd => by
  obtain ⟨i, _, rfl⟩ := List.mem_map.mp hd
  exact fits_int i
theorem eqB_int (i j : Int) : eqB (.int i) (.int j) = decide (i = j) := by
  show (i == j) = decide (i = j)
  rw [Bool.beq_eq_decide_eq]
theorem eqvA_ints : ∀ xs ys : List Int, PyData.eqvAll (pyA (intsD xs)) (pyA (intsD ys)) = decide (xs = ys)
  | [], [] => rfl
  | [], _ :: _ => rfl
  | _ :: _, [] => rfl
  | x :: xs, y :: ys => by
    show (PyData.eqv (.int x) (.int y) && PyData.eqvAll (pyA (intsD xs)) (pyA (intsD ys))) = _
    rw [eqvA_ints xs ys]
    show ((x == y) && decide (xs = ys)) = _
    by_cases h : x = y
    · subst h
      by_cases h2 : xs = ys
      · subst h2; simp
      · simp [h2]
    · simp [h]
theorem eqB_ints (xs ys : List Int) : eqB (.lst (intsD xs)) (.lst (intsD ys)) = decide (xs = ys) := by
  show PyData.eqv (.list (pyA (intsD xs))) (.list (pyA (intsD ys))) = _
  rw [PyData.eqv]; exact eqvA_ints xs ys
theorem EqW_int {S : Store} {i j : Int} {k : Bool → Prop} (h : k (decide (i = j))) : EqW S (.int i) (.int j) k := ⟨eqOk_int i, eqOk_int j, by
  show k (eqB (.int i) (.int j))
  rw [eqB_int]; exact h⟩
theorem EqW_ints {S : Store} {xs ys : List Int} {k : Bool → Prop} (h : k (decide (xs = ys))) : EqW S (.lst (intsD xs)) (.lst (intsD ys)) k := ⟨(fits_ints xs).ok (by decide), (fits_ints ys).ok (by decide), by
  show k (eqB (.lst (intsD xs)) (.lst (intsD ys)))
  rw [eqB_ints]; exact h⟩
/-- x == [] -/
theorem EqW_nil {S : Store} {n : Nat} {xs : List D} {k : Bool → Prop} (hf : Fits n (.lst xs)) (hn : n ≤ 64) (h : k xs.isEmpty) : EqW S (.lst xs) (.lst []) k := ⟨hf.ok hn, ⟨rfl, rfl⟩, by
  show k (PyData.eqv (.list (pyA xs)) (.list []))
  cases xs with
  | nil => exact h
  | cons x xs => exact h⟩
theorem inW_ints {S : Store} {i : Int} {xs : List Int} {k : Bool → Prop} (h : k (decide (i ∈ xs))) : inW S (.int i) (.lst (intsD xs)) k := by
  refine ⟨rfl, ?_, ?_⟩
  · rw [List.all_eq_true]
    intro d hd
    obtain ⟨j, _, rfl⟩ := List.mem_map.mp hd
    rfl
  · have e : ((intsD xs).any fun d => eqF d (.int i)) = decide (i ∈ xs) := by
      clear h
      induction xs with
      | nil => simp [intsD]
      | cons x xs ih =>
        show ((x == i) || (intsD xs).any fun d => eqF d (.int i)) = _
        rw [ih]
        by_cases hx : x = i
        · subst hx; simp
        · have hx' : ¬ i = x := fun z => hx z.symm
          simp [hx, hx']
    rw [e]; exact h
theorem atI_ints {xs : List Int} {i : Int} {j : Int} (h : atI xs i = some j) : atI (intsD xs) i = some (.int j) := by
  unfold atI intsD at *
  rw [List.length_map]
  cases q : ixN xs.length i with
  | none => rw [q] at h; cases h
  | some n =>
    rw [q] at h
    show (xs.map D.int)[n]? = _
    rw [List.getElem?_map, show xs[n]? = some j from h]; rfl
theorem atI_map {α : Type} {f : α → D} {xs : List α} {i : Int} {j : α} (h : atI xs i = some j) : atI (xs.map f) i = some (f j) := by
  unfold atI at *
  rw [List.length_map]
  cases q : ixN xs.length i with
  | none => rw [q] at h; cases h
  | some n =>
    rw [q] at h
    show (xs.map f)[n]? = _
    rw [List.getElem?_map, show xs[n]? = some j from h]; rfl
/-! a def by its name -/
structure Df (K : PySem.W.Frag) (mg : Str → Option Value) (x : Str) (st : Stmt) : Prop where
  ex : ∃ f fd, Fun K x x st f fd ∧ mg x = some (.ref f)
theorem gf_of {P : Program} {w : World} {K : PySem.W.Frag} {mg : Str → Option Value} {base : Heap} {k : Nat} {x : Str} {st : Stmt} {N ps : List Str} {sp : DSpec} (dd : Df K mg x st) (Sc : FnScope N ps (defScope st))
    (hb : ∀ (kV doc pm : Value) (an : Option Addr) (cdv ct : Value) (us : List Value), us.length = ps.length → bindArgs (PySem.W.fnOf x x (defArgs st) (defBody st) (defScope st) .none kV doc pm an cdv ct) ⟨us, []⟩ = pure (ps.zip us))
    (body : ∀ f cdv A outer s H E ds S PP EE, let X := cxOf (L2.CX P w) P w K mg base N x (defScope st) f cdv A outer s H E
      Room k X.A → X.A.guards = some [] → ds.length = ps.length → sp ds S PP EE → JSs S.length X (defBody st) (startD N ds) S (RetP PP) EE) : GF P w K mg base (k + 1) x ps sp := by
  obtain ⟨f, fd, F, hm⟩ := dd.ex
  obtain ⟨oc, od, kV, doc, pm, an, cdv, ct, osl, e, lk, hcd⟩ := F.ex
  exact ⟨f, fd, fnG_of F Sc (body f), hm, F.kp, F.binds hb, oc, od, osl, lk⟩
theorem passes_own {P : Program} {w : World} {K : PySem.W.Frag} {mg : Str → Option Value} {base : Heap} {N : List Str} {x : Str} {sc : Scope} {f : Addr} {cdv : Value} {A : Around} {outer : List Env} {s : Shared} {H : Hp} {E : XK} :
    PassesOwn (model P w) (cxOf (L2.CX P w) P w K mg base N x sc f cdv A outer s H E).A (cxOf (L2.CX P w) P w K mg base N x sc f cdv A outer s H E).env (cxOf (L2.CX P w) P w K mg base N x sc f cdv A outer s H E).xe :=
  passes_of (X := cxOf (L2.CX P w) P w K mg base N x sc f cdv A outer s H E) rfl
end J
namespace J
open PySem PySem.Spec PyProof.Rows L2
section
variable {X : Cx} {ρ : Sl} {S : Store} {P : D → Store → Prop} {B : Bad}
/-! shapes, for the stepper -/
theorem sh_name {x : Str} {p} (h : JE X (.Name x p) ρ S P B) : JE X (.Name x p) ρ S P B := h
theorem sh_call {x : Str} {p as ks pos} (h : JE X (.Call (.Name x p) as ks pos) ρ S P B) : JE X (.Call (.Name x p) as ks pos) ρ S P B := h
theorem sh_callx (x : Str) {p as ks pos} (h : JE X (.Call (.Name x p) as ks pos) ρ S P B) : JE X (.Call (.Name x p) as ks pos) ρ S P B := h

theorem sh_lr {p pos p2 pos2 : Pos} {a : Expr} (h : JE X (.Call (.Name "list" p) [.Call (.Name "range" p2) [a] [] pos2] [] pos) ρ S P B) : JE X (.Call (.Name "list" p) [.Call (.Name "range" p2) [a] [] pos2] [] pos) ρ S P B := h
theorem sh_two (x : Str) {p pos : Pos} {a b : Expr} (h : JE X (.Call (.Name x p) [a, b] [] pos) ρ S P B) : JE X (.Call (.Name x p) [a, b] [] pos) ρ S P B := h
theorem sh_cons {PA : List D → Store → Prop} {e : Expr} {es : List Expr} (h : JA X (e :: es) ρ S PA B) : JA X (e :: es) ρ S PA B := h
theorem sh_t {PT : Bool → Store → Prop} {a : Expr} (h : JT X a ρ S PT B) : JT X a ρ S PT B := h
end
end J
namespace J
open PySem PySem.Spec PyProof.Rows L2
/-! ### things of the store that change no more -/
mutual
def D.pl (k : Nat) : D → Prop
  | .tup ds => plA k ds
  | .lst ds => plA k ds
  | .ptr j => j < k
  | _ => True
def plA (k : Nat) : List D → Prop
  | [] => True
  | d :: ds => D.pl k d ∧ plA k ds
end
def Cell.pl (k : Nat) : Cell → Prop
  | .lst ds => plA k ds
  | .dK kvs => plA k (kvs.map (·.2))
  | .dT kvs => plA k (kvs.map (·.2))
  | .gone => True
def plS (k : Nat) : Sl → Prop
  | [] => True
  | none :: r => plS k r
  | some d :: r => D.pl k d ∧ plS k r
def stPl (k : Nat) (S : Store) : Prop := ∀ c ∈ S, c.pl k
theorem plA_mem {k : Nat} : ∀ {ds : List D}, (∀ d ∈ ds, D.pl k d) → plA k ds
  | [], _ => by unfold plA; trivial
  | d :: ds, h => by unfold plA; exact ⟨h d (List.mem_cons_self ..), plA_mem fun x hx => h x (List.mem_cons_of_mem _ hx)⟩
theorem pl_ints {k : Nat} (ns : List Int) : plA k (intsD ns) := plA_mem fun d hd => by
  obtain ⟨i, _, rfl⟩ := List.mem_map.mp hd
  unfold D.pl; trivial
theorem plS_get {k : Nat} : ∀ {ρ : Sl} {i : Nat} {d : D}, plS k ρ → ρ[i]? = some (some d) → D.pl k d
  | [], _, _, _, e => by cases e
  | none :: r, 0, _, _, e => by cases e
  | some d :: r, 0, _, h, e => by cases e; exact h.1
  | none :: r, i + 1, _, h, e => plS_get (ρ := r) (i := i) h (by rw [List.getElem?_cons_succ] at e; exact e)
  | some d :: r, i + 1, _, h, e => plS_get (ρ := r) (i := i) h.2 (by rw [List.getElem?_cons_succ] at e; exact e)
section
variable {K : PySem.W.Frag} {u : Mu} {H : Hp} {S : Store} {k : Nat}
def Mu.cut (u : Mu) (k : Nat) : Mu := ⟨u.m.take k, u.fr⟩
theorem Mu.cut_off {a : Addr} (h : u.Off a) : (u.cut k).Off a := ⟨fun z => h.1 (List.mem_of_mem_take z), h.2⟩
theorem SqTo.cut {a : Addr} {vs : List V} (h : SqTo K u H a vs) : SqTo K (u.cut k) H a vs := by
  rcases h with ⟨h, ho⟩ | h
  · exact .inl ⟨h, Mu.cut_off ho⟩
  · exact .inr h
mutual
theorem Rp.cut : ∀ {v : V} {d : D}, Rp K u H v d → D.pl k d → Rp K (u.cut k) H v d
  | _, _, .non, _ => .non
  | _, _, .bl b, _ => .bl b
  | _, _, .int i, _ => .int i
  | _, _, .str x, _ => .str x
  | _, _, .tup h r, q => .tup h.cut (RpA.cut r (by unfold D.pl at q; exact q))
  | _, _, .lst h r, q => .lst ⟨h.1, Mu.cut_off h.2⟩ (RpA.cut r (by unfold D.pl at q; exact q))
  | _, _, .ptr h, q => .ptr (by unfold D.pl at q; unfold Mu.cut; rw [List.getElem?_take]; rw [if_pos q]; exact h)
  | _, _, .val v, _ => .val v
theorem RpA.cut : ∀ {v : List V} {d : List D}, RpA K u H v d → plA k d → RpA K (u.cut k) H v d
  | _, _, .nil, _ => .nil
  | _, _, .cons r t, q => .cons (Rp.cut r (by unfold plA at q; exact q.1)) (RpA.cut t (by unfold plA at q; exact q.2))
end
theorem CellR.cut {a : Addr} {c : Cell} (r : CellR K u H a c) (h : c.pl k) : CellR K (u.cut k) H a c := by
  cases c with
  | lst ds => obtain ⟨vs, h1, h2⟩ := r; exact ⟨vs, h1, h2.cut h⟩
  | dK ds => obtain ⟨vs, h1, h2, h3⟩ := r; exact ⟨vs, h1, h2, h3.cut h⟩
  | dT ds => obtain ⟨vs, h1, h2, h3⟩ := r; exact ⟨vs, h1, h2, h3.cut h⟩
  | gone => trivial
theorem cut_get {i : Nat} {a : Addr} (e : (u.cut k).m[i]? = some (some a)) : i < k ∧ u.m[i]? = some (some a) := by
  unfold Mu.cut at e
  simp only [List.getElem?_take] at e
  split at e
  · rename_i h; exact ⟨h, e⟩
  · cases e
/-- the last thing of the store, at rest from here on -/
theorem cut_sto {c : Cell} (hS : StoR K u H (S ++ [c])) (hp : stPl S.length S) : StoR K (u.cut S.length) H S where
  len := by
    have h := hS.len
    unfold Mu.cut
    simp only [List.length_take, List.length_append, List.length_cons, List.length_nil] at h ⊢
    omega
  inj := fun i j a h1 h2 => hS.inj i j a (cut_get h1).2 (cut_get h2).2
  trk := fun a h => hS.trk a (List.mem_of_mem_take h)
  trf := fun a h => ⟨(hS.trf a h).1, fun z => (hS.trf a h).2 (List.mem_of_mem_take z)⟩
  sto := fun j c' e => by
    have hj : j < S.length := by
      rcases Nat.lt_or_ge j S.length with h | h
      · exact h
      · rw [List.getElem?_eq_none h] at e; cases e
    rcases hS.sto j c' (by rw [List.getElem?_append_left hj]; exact e) with h | ⟨a, h1, h2⟩
    · exact .inl h
    · refine .inr ⟨a, ?_, h2.cut (hp _ (List.mem_of_getElem? e))⟩
      unfold Mu.cut; simp only [List.getElem?_take]; rw [if_pos hj]; exact h1
theorem cut_adv {n : Nat} (hn : n ≤ k) : Adv n u H (u.cut k) H where
  pre := fun j hj => by unfold Mu.cut; simp only [List.getElem?_take]; rw [if_pos (by omega)]
  new := fun j a e => .inl (List.mem_of_getElem? (cut_get e).2)
  keep := fun a o e _ => e
  mono := fun a o e => ⟨o, e⟩
  frn := fun a h => .inl h
  fr := rfl
  frk := fun a _ => rfl
end
section
variable {X : Cx} {n : Nat} {S : Store} {ρ : Sl} {P : Out → Prop} {B : Bad} {sts : List Stmt}
/-- what a slot points to comes to rest -/
theorem jss_rest {i : Nat} {ds : List D} (hi : ρ[i]? = some (some (.ptr S.length))) (hn : n ≤ S.length) (hd : plA S.length ds) (hS : stPl S.length S) (hρ : plS S.length (ρ.set i none)) (h : JSs n X sts (ρ.set i (some (.lst ds))) S P B) : JSs n X sts ρ (S ++ [.lst ds]) P B :=
  fun u σ H Dd _ hW hS0 hE hP => by
    have hl := hS0.len
    rw [List.length_append, List.length_cons, List.length_nil] at hl
    have A : Adv n u H (u.cut S.length) H := cut_adv hn
    refine h (u.cut S.length) σ H Dd hn (hW.after A) (cut_sto hS0 hS) ⟨?_, fun j d e => ?_⟩ (hP.after A)
    · rw [List.length_set]; exact hE.len
    · by_cases hj : i = j
      · subst hj
        obtain ⟨v, hv, r⟩ := hE.get i _ hi
        have hlt : i < ρ.length := (List.getElem?_eq_some_iff.mp hi).1
        rw [List.getElem?_set_self hlt] at e
        cases e
        refine ⟨v, hv, ?_⟩
        cases r with
        | ptr hk =>
          rcases hS0.sto S.length (.lst ds) (by rw [List.getElem?_append_right (Nat.le_refl _), Nat.sub_self]; rfl) with z | ⟨a', ha', vs, h1, h2⟩
          · cases z
          · rw [hk] at ha'; cases ha'
            refine .lst ⟨h1, fun z => ?_, fun z => (hS0.trf _ z).2 (List.mem_of_getElem? hk)⟩ (h2.cut hd)
            obtain ⟨j, hj⟩ := List.mem_iff_getElem?.mp z
            have hj' := cut_get hj
            have := hS0.inj _ _ _ hj'.2 hk
            omega
      · rw [List.getElem?_set_ne hj] at e
        obtain ⟨v, hv, r⟩ := hE.get j d e
        exact ⟨v, hv, r.cut (plS_get (i := j) hρ (by rw [List.getElem?_set_ne hj]; exact e))⟩
mutual
theorem Rp.pl {K : PySem.W.Frag} {u : Mu} {H : Hp} : ∀ {v : V} {d : D}, Rp K u H v d → D.pl u.m.length d
  | _, _, .non => by unfold D.pl; trivial
  | _, _, .bl b => by unfold D.pl; trivial
  | _, _, .int i => by unfold D.pl; trivial
  | _, _, .str x => by unfold D.pl; trivial
  | _, _, .tup h r => by unfold D.pl; exact RpA.pl r
  | _, _, .lst h r => by unfold D.pl; exact RpA.pl r
  | _, _, .ptr h => by unfold D.pl; exact (List.getElem?_eq_some_iff.mp h).1
  | _, _, .val v => by unfold D.pl; trivial
theorem RpA.pl {K : PySem.W.Frag} {u : Mu} {H : Hp} : ∀ {v : List V} {d : List D}, RpA K u H v d → plA u.m.length d
  | _, _, .nil => by unfold plA; trivial
  | _, _, .cons r t => by unfold plA; exact ⟨Rp.pl r, RpA.pl t⟩
end
theorem StoR.pl {K : PySem.W.Frag} {u : Mu} {H : Hp} (hS : StoR K u H S) : stPl S.length S := fun c hc => by
  obtain ⟨j, hj⟩ := List.mem_iff_getElem?.mp hc
  rw [← hS.len]
  rcases hS.sto j c hj with h | ⟨a, _, h2⟩
  · rw [h]; trivial
  · cases c with
    | lst ds => obtain ⟨vs, h1, h2⟩ := h2; exact h2.pl
    | dK ds => obtain ⟨vs, h1, h2, h3⟩ := h2; exact h3.pl
    | dT ds => obtain ⟨vs, h1, h2, h3⟩ := h2; exact h3.pl
    | gone => trivial
theorem jss_pl (h : stPl S.length S → JSs n X sts ρ S P B) : JSs n X sts ρ S P B := fun u σ H Dd hn hW hS hE hP => h hS.pl u σ H Dd hn hW hS hE hP
/-- a slot is let go -/
theorem jss_weak {ρ' : Sl} (hl : ρ'.length ≤ ρ.length) (hp : ∀ (i : Nat) d, ρ'[i]? = some (some d) → ρ[i]? = some (some d)) (h : JSs n X sts ρ' S P B) : JSs n X sts ρ S P B := fun u σ H Dd hn hW hS hE hP =>
  h u σ H Dd hn hW hS (hE.weak (Nat.le_trans hl hE.len) hp) hP
end
end J
/-! sum(lists, []), list.index -/
namespace J
open PySem PySem.Spec PyProof.Rows L2
section
variable {prog : Program} {w : World} {A : Around} {R : Result → Shared → Prop} {I ax : Addr} {items : Array Value}
abbrev flF (f : Nat → List Value) (i k : Nat) : List Value := (List.range' i k).flatMap f
theorem sumL_loop (hh : A.in1.handled = none) (hax : ax ≠ I) (bs : Nat → Addr) (f : Nat → List Value) (hval : ∀ (i : Nat) v, items[i]? = some v → v = .ref (bs i)) (S : Addr) (hS1 : S ≠ I) (hS2 : S ≠ ax) (hbw : ∀ i, i < items.size → bs i ≠ I ∧ bs i ≠ S) :
    ∀ (k i : Nat) (s : Shared) (r : Addr) (acc : List Value) (c m : Nat), items.size - i = k → i ≤ items.size → s.heap.IsListIter I ax i → s.heap.IsList ax items → s.heap.get? S = some { cls := .type "list", dict := none, data := .seq #[.ref r] c, slots := #[] } →
    IsL s.heap r acc.toArray m → r ≠ I → r ≠ S → (∀ j, i ≤ j → j < items.size → ∃ m, IsL s.heap (bs j) (f j).toArray m) → acc.length + (flF f i k).length ≤ sizeLine →
    (∀ h' tk r' m', (∀ b o, b ≠ I → b ≠ S → s.heap.get? b = some o → h'.get? b = some o) → IsL h' r' (acc ++ flF f i k).toArray m' → (k = 0 ∧ r' = r) ∨ S < r' → R (.ok (.ret (.ref r'))) { s with heap := h', toks := tk }) →
    codeAny (model prog w) A (.builtin "sum.loop" ⟨[.ref I, .ref S, rawInt 2, rawInt 0], []⟩) R s := by
  have W := Walks.list (prog := prog) (w := w) hh I ax hax items
  intro k
  induction k with
  | zero =>
    intro i s r acc c m hk hi hit hls hS hr hrI hrS hb hz hR
    have hin : i = items.size := by omega
    subst hin
    refine codeAny_builtin F.entry_sum_loop ?_
    rw [Around.under_plainId F.plain_sum_loop _]
    show wpAny _ A.in1 (seqItems? (.ref S) >>= _) _ _ s
    refine wpAny_bind (wpAny_seqItems hS rfl ?_)
    show wpAny _ A.in1 (tryCatch (pyNext (.ref I)) _ >>= _) _ _ s
    refine wpAny_bind (wpAny_tryCatch (W.done s _ _ ⟨hit, hls⟩ fun h' tk hk' => ?_))
    refine wpAny_pure (hR h' tk r m (fun b o hbw _ e => hk' b o (by simpa using hbw) e) ?_ (.inl ⟨rfl, rfl⟩))
    have e : acc ++ flF f items.size 0 = acc := by simp [flF]
    rw [e]; exact hk' r _ (by simpa using hrI) hr
  | succ k ih =>
    intro i s r acc c m hk hi hit hls hS hr hrI hrS hb hz hR
    have hlt : i < items.size := by omega
    refine codeAny_builtin F.entry_sum_loop ?_
    rw [Around.under_plainId F.plain_sum_loop _]
    show wpAny _ A.in1 (seqItems? (.ref S) >>= _) _ _ s
    refine wpAny_bind (wpAny_seqItems hS rfl ?_)
    show wpAny _ A.in1 (tryCatch (pyNext (.ref I)) _ >>= _) _ _ s
    refine wpAny_bind (wpAny_tryCatch (W.item i s _ _ hlt ⟨hit, hls⟩ fun v h' tk hP hst' hk' => ?_))
    have hk2 : ∀ b o, b ≠ I → s.heap.get? b = some o → h'.get? b = some o := fun b o hb e => hk' b o (by simpa using hb) e
    have hv := hval i v hP
    subst hv
    obtain ⟨mb, hbi⟩ := hb i (Nat.le_refl _) hlt
    have hbI := hbw i hlt
    have hb' := hk2 _ _ hbI.1 hbi
    have hr' := hk2 _ _ hrI hr
    have hS' := hk2 S _ hS1 hS
    have efl : flF f i (k + 1) = f i ++ flF f (i + 1) k := by simp [flF, List.range'_succ]
    rw [efl, List.length_append] at hz
    show wpAny _ A.in1 ((holding [Value.ref (bs i)] (binaryOp .Add (.ref r) (.ref (bs i)))).attempt >>= _) _ _ _
    refine wpAny_bind (wpAny_attempt (wpAny_holding (PySem.P.add_list hr' hb' ?_ (by rw [List.size_toArray, List.size_toArray]; omega))))
    have ea : acc.toArray ++ (f i).toArray = (acc ++ f i).toArray := by simp
    rw [ea]
    have hSlt : S < h'.objs.size := Heap.lt_size hS'
    have hS2' := Heap.get?_push_of_some { cls := .type "list", data := .seq (acc ++ f i).toArray } hS'
    show wpAny _ A.in1 (updateSeq S (fun _ => #[.ref h'.objs.size]) >>= _) _ _ _
    refine wpAny_bind (wpAny_updateSeq hS2' rfl ?_)
    have hS3 := Heap.get?_update_self (Obj.mapSeq fun _ => #[Value.ref h'.objs.size]) hS2' rfl
    refine wpAny_bind (wpAny_letGo ?_)
    have up : ∀ b o, b ≠ I → b ≠ S → s.heap.get? b = some o → (((h'.push { cls := .type "list", data := .seq (acc ++ f i).toArray }).update S (Obj.mapSeq fun _ => #[Value.ref h'.objs.size])).update S (Obj.mapSeq fun _ => #[Value.ref h'.objs.size])).get? b = some o := fun b o h1 h2 e =>
      (Heap.get?_update_other _ _ (Ne.symm h2)).trans ((Heap.get?_update_other _ _ (Ne.symm h2)).trans (Heap.get?_push_of_some _ (hk2 b o h1 e)))
    have upn : ∀ b o, b ≠ S → h'.get? b = some o → (((h'.push { cls := .type "list", data := .seq (acc ++ f i).toArray }).update S (Obj.mapSeq fun _ => #[Value.ref h'.objs.size])).update S (Obj.mapSeq fun _ => #[Value.ref h'.objs.size])).get? b = some o := fun b o h2 e =>
      (Heap.get?_update_other _ _ (Ne.symm h2)).trans ((Heap.get?_update_other _ _ (Ne.symm h2)).trans (Heap.get?_push_of_some _ e))
    have hne : S ≠ h'.objs.size := Nat.ne_of_lt hSlt
    have hIlt : I < h'.objs.size := by obtain ⟨o, e, _⟩ := hst'.1; exact Heap.lt_size e
    refine wpAny_bind (wpAny_updateSeq hS3 rfl (wpAny_pure ⟨plainId_quiet F.plain_sum_loop _, ih (i + 1) _ h'.objs.size (acc ++ f i) _ 0 (by omega) hlt (hst'.1.at fun o e => upn _ _ (Ne.symm hS1) e) (hst'.2.at fun o e => upn _ _ (Ne.symm hS2) e) (Heap.get?_update_self _ hS3 rfl) ?_ (Nat.ne_of_gt hIlt) (Ne.symm hne) (fun j h1 h2 => ?_) (by rw [List.length_append]; omega) fun h2 tk2 r2 m2 hk3 hl2 hor => ?_⟩))
    · exact (Heap.get?_update_other _ _ hne).trans ((Heap.get?_update_other _ _ hne).trans (Heap.get?_push_size _ rfl))
    · obtain ⟨mj, hj⟩ := hb j (by omega) h2
      exact ⟨mj, up _ _ (hbw j h2).1 (hbw j h2).2 hj⟩
    · refine hR h2 tk2 r2 m2 (fun b o h1 h2' e => hk3 b o h1 h2' (up b o h1 h2' e)) (by rw [efl, ← List.append_assoc]; exact hl2) (.inr ?_)
      rcases hor with ⟨_, rfl⟩ | h
      · exact hSlt
      · exact h
end
theorem args_sum2 (a b : Value) : argsOk "sum" ⟨[a, b], []⟩ := by unfold argsOk; kernel_rfl
theorem sub_lst_str : isSubtype (.type "list") (.type "str") = pure false := by rw [isSubtype_type]; kernel_rfl
theorem sub_lst_bytes : isSubtype (.type "list") (.type "bytes") = pure false := by rw [isSubtype_type]; kernel_rfl
theorem sub_lst_bytearray : isSubtype (.type "list") (.type "bytearray") = pure false := by rw [isSubtype_type]; kernel_rfl
section
variable {prog : Program} {w : World} {A : Around} {E : Value → Shared → Prop} {s : Shared}
theorem sumL_raw {Q : Value → Shared → Prop} {l b : Addr} {items : Array Value} {acc : List Value} {m : Nat} (hh : A.handled = none) (bs : Nat → Addr) (f : Nat → List Value) (hl : s.heap.IsList l items) (hb : IsL s.heap b acc.toArray m)
    (hval : ∀ (i : Nat) v, items[i]? = some v → v = .ref (bs i)) (hj : ∀ j, j < items.size → ∃ m, IsL s.heap (bs j) (f j).toArray m) (hz : acc.length + (flF f 0 items.size).length ≤ sizeLine)
    (h : ∀ h' tk r' m', (∀ b o, s.heap.get? b = some o → h'.get? b = some o) → IsL h' r' (acc ++ flF f 0 items.size).toArray m' → (items.size = 0 ∧ r' = b) ∨ s.heap.objs.size ≤ r' → Q (.ref r') { s with heap := h', toks := tk }) :
    wpAny (model prog w) A (call (.builtin "sum") [.ref l, .ref b]) Q E s := by
  refine call_function_tree F.kind_sum F.plain_sum F.entry_sum (args_sum2 _ _) ?_
  unfold Builtin.«sum»
  simp only [List.length_cons, List.length_nil]
  rw [if_neg (by decide)]
  refine wpAny_bind (wpAny_of_eq (show Builtin.Builtins.bindParams "sum" ["start"] 0 ⟨[.ref b], []⟩ = pure [some (.ref b)] from rfl) ?_)
  have hlt : l < s.heap.objs.size := by obtain ⟨_, e, _⟩ := hl; exact Heap.lt_size e
  have hblt : b < s.heap.objs.size := Heap.lt_size hb
  refine wpAny_bind (wpAny_pyIter_list hl ?_)
  have hb2 : IsL (s.heap.push { cls := .type "list_iterator", data := .fields #[.ref l, .int 0 0] }) b acc.toArray m := Heap.get?_push_of_some _ hb
  have tb : Shared.TypeIs { s with heap := s.heap.push { cls := .type "list_iterator", data := .fields #[.ref l, .int 0 0] } } (.ref b) "list" := ⟨_, hb2, rfl⟩
  refine wpAny_bind (wpAny_pure ?_)
  simp only [List.forIn_cons, List.forIn_nil]
  refine wpAny_bind (wpAny_bind (wpAny_bind (wpAny_isInstance (T := "list") (b := false) tb sub_lst_str ?_)))
  simp only [Bool.false_eq_true, if_false]
  refine wpAny_pure (wpAny_bind (wpAny_bind (wpAny_isInstance (T := "list") (b := false) tb sub_lst_bytes ?_)))
  simp only [Bool.false_eq_true, if_false]
  refine wpAny_pure (wpAny_bind (wpAny_bind (wpAny_isInstance (T := "list") (b := false) tb sub_lst_bytearray ?_)))
  simp only [Bool.false_eq_true, if_false]
  refine wpAny_pure (wpAny_pure ?_)
  refine wpAny_bind (wpAny_newObj_type ?_)
  have e1 : (s.heap.push { cls := .type "list_iterator", data := .fields #[.ref l, .int 0 0] }).objs.size = s.heap.objs.size + 1 := Heap.size_push ..
  refine wpAny_pure ⟨plainId_quiet F.plain_sum_loop _, sumL_loop hh (I := s.heap.objs.size) (ax := l) (Nat.ne_of_lt hlt) bs f hval _ (by rw [e1]; exact Nat.succ_ne_self _) (by rw [e1]; exact Nat.ne_of_gt (Nat.lt_succ_of_lt hlt)) (fun i hi => ?_) items.size 0 _ b acc 0 m rfl (Nat.zero_le _) ⟨_, Heap.get?_push_of_some _ (Heap.get?_push_size _ rfl), rfl, rfl⟩ ((hl.push _).push _) (Heap.get?_push_size _ rfl)
    (Heap.get?_push_of_some _ hb2) (Nat.ne_of_lt hblt) (by rw [e1]; exact Nat.ne_of_lt (Nat.lt_succ_of_lt hblt)) (fun j _ hj' => ?_) hz fun h' tk r' m' hk hl' hor => ?_⟩
  · obtain ⟨mm, hm⟩ := hj i hi
    have := Heap.lt_size hm
    exact ⟨Nat.ne_of_lt this, by rw [e1]; exact Nat.ne_of_lt (Nat.lt_succ_of_lt this)⟩
  · obtain ⟨mm, hm⟩ := hj j hj'
    exact ⟨mm, Heap.get?_push_of_some _ (Heap.get?_push_of_some _ hm)⟩
  · refine h h' tk r' m' (fun c o e => hk c o (Nat.ne_of_lt (Heap.lt_size e)) (by rw [e1]; exact Nat.ne_of_lt (Nat.lt_succ_of_lt (Heap.lt_size e))) (Heap.get?_push_of_some _ (Heap.get?_push_of_some _ e))) hl' ?_
    rcases hor with h1 | h1
    · exact .inl h1
    · rw [e1] at h1; exact .inr (Nat.le_of_lt (Nat.lt_of_succ_lt h1))
end
/-! ### by values, by data -/
section
variable {X : Cx}
def rSumL (K : PySem.W.Frag) : List V → Hp → VK → Prop := fun vs H Q => ∃ (a b : Addr) (ls : List Addr) (f : Nat → List V) (xs0 : List V), vs = [V.ref a, V.ref b] ∧ SqL K H a (ls.map V.ref) ∧ H b = some (.lst xs0) ∧ (∀ (j : Nat) l, ls[j]? = some l → H l = some (.lst (f j))) ∧
  xs0.length + ((List.range' 0 ls.length).flatMap f).length ≤ sizeLine ∧ (ls = [] → Q (.ref b) H) ∧ ∀ p, H p = none → Q (.ref p) (upd H p (.lst (xs0 ++ (List.range' 0 ls.length).flatMap f)))
theorem vals_refs : ∀ {ls : List Addr} {its : List Value}, Vals (ls.map V.ref) its → its = ls.map Value.ref
  | [], _, .nil => rfl
  | _ :: _, _, .cons r t => by cases r; rw [vals_refs t]; rfl
theorem vals_flat {f : Nat → List V} {g : Nat → List Value} : ∀ (k i : Nat), (∀ j, i ≤ j → j < i + k → Vals (f j) (g j)) → Vals ((List.range' i k).flatMap f) ((List.range' i k).flatMap g)
  | 0, _, _ => .nil
  | k + 1, i, h => by
    rw [List.range'_succ, List.flatMap_cons, List.flatMap_cons]
    exact (h i (Nat.le_refl _) (by omega)).append (vals_flat k (i + 1) fun j h1 h2 => h j (by omega) (by omega))
theorem cr_sumL (hc : X.calm = true) : CallR X (.builtin "sum") (rSumL X.K) := by
  intro pins s σ H vs us Q I r h
  obtain ⟨a, b, ls, f, xs0, rfl, hs, hb, hf, hz, q0, q⟩ := h
  obtain ⟨its, rv, hl, _⟩ := I.list hs
  have e := vals_refs rv
  subst e
  obtain ⟨_, its0, m, r0, hl0, e0⟩ := I.lstM hb
  cases r with
  | cons r1 r =>
  cases r1
  cases r with
  | cons r1 r =>
  cases r1; cases r
  have hg : ∀ j : Nat, ∃ its : List Value, j < ls.length → Vals (f j) its ∧ ∃ m, IsL s.heap ((ls[j]?).getD 0) its.toArray m := fun j => by
    by_cases hj : j < ls.length
    · have e := List.getElem?_eq_getElem hj
      obtain ⟨_, its1, m1, r1, _, e1⟩ := I.lstM (hf j _ e)
      exact ⟨its1, fun _ => ⟨r1, m1, by rw [e]; exact e1⟩⟩
    · exact ⟨[], fun z => absurd z hj⟩
  have hg' := fun j => (hg j).choose_spec
  have hsz : (ls.map Value.ref).toArray.size = ls.length := by simp
  have hvf := vals_flat (f := f) (g := fun j => (hg j).choose) ls.length 0 (fun j _ h2 => (hg' j (by omega)).1)
  have hv := r0.append hvf
  have hlen := hv.length
  have hlf := hvf.length
  refine sumL_raw (I.ok.hd hc) (fun j => (ls[j]?).getD 0) (fun j => (hg j).choose) hl.isList e0 (fun i v hv => ?_) (fun j hj => (hg' j (by rw [← hsz]; exact hj)).2) (by rw [hsz]; show its0.length + ((List.range' 0 ls.length).flatMap fun j => (hg j).choose).length ≤ _; omega) fun h' tk r' m' hk hl' hor => ?_
  · simp only [List.getElem?_toArray, List.getElem?_map] at hv
    cases q : ls[i]? with
    | none => rw [q] at hv; cases hv
    | some l => rw [q] at hv; cases hv; rfl
  · rw [hsz] at hl' hor
    rcases hor with ⟨h0, rfl⟩ | h1
    · have : ls = [] := List.eq_nil_of_length_eq_zero h0
      exact ⟨.ref _, H, I.kept hk, rfl, q0 this⟩
    · exact ⟨.ref _, upd H r' (.lst (xs0 ++ (List.range' 0 ls.length).flatMap f)), I.laid (t' := tk) hk h1 ⟨by rw [List.length_append]; exact hz, _, m', hv, hl'⟩, rfl, q _ (I.hok.fresh h1)⟩
end
section
variable {X : Cx} {ρ : Sl} {S : Store} {P : D → Store → Prop} {B : Bad} {e : Expr} {es : List Expr} {p pos : Pos}
theorem rp_lists {K : PySem.W.Frag} {u : Mu} {H : Hp} : ∀ {xss : List (List D)} {vs : List V} (i : Nat), RpA K u H vs (xss.map D.lst) → ∃ (ls : List Addr) (f : Nat → List V), vs = ls.map V.ref ∧ ls.length = xss.length ∧ (∀ (j : Nat) l, ls[j]? = some l → H l = some (.lst (f (i + j)))) ∧ RpA K u H ((List.range' i ls.length).flatMap f) xss.flatten
  | [], _, _, .nil => ⟨[], fun _ => [], rfl, rfl, (fun j l e => by cases e), RpA.nil⟩
  | xs :: xss, _, i, .cons r t => by
    obtain ⟨ls, f, rfl, hl, hf, ra⟩ := rp_lists (i + 1) t
    cases r with
    | lst hq rq =>
      rename_i a ws
      refine ⟨a :: ls, fun j => if j = i then ws else f j, rfl, by rw [List.length_cons, hl]; rfl, fun j l e => ?_, ?_⟩
      · cases j with
        | zero => cases e; simp only [Nat.add_zero, if_true]; exact hq.1
        | succ j =>
          rw [List.getElem?_cons_succ] at e
          have := hf j l e
          simp only []
          rw [if_neg (by omega), show i + (j + 1) = i + 1 + j by omega]; exact this
      · rw [List.length_cons, List.range'_succ, List.flatMap_cons, List.flatten_cons, if_pos rfl]
        refine rq.append ?_
        have : (List.range' (i + 1) ls.length).flatMap (fun j => if j = i then ws else f j) = (List.range' (i + 1) ls.length).flatMap f := by
          rw [List.flatMap_def, List.flatMap_def]
          congr 1
          refine List.map_congr_left fun j hj => ?_
          rw [List.mem_range'_1] at hj
          rw [if_neg (by omega)]
        rw [this]; exact ra
theorem je_sumL (hc : X.calm = true) (hg : Gl X "sum") (hm : X.mg "sum" = none) (h : JA X (e :: es) ρ S (fun ds S1 => ∃ xss : List (List D), ds = [.lst (xss.map D.lst), .lst []] ∧ xss.flatten.length ≤ sizeLine ∧ P (.lst xss.flatten) S1) B) (he : Plain1 X e es := by rfl) (hpl : (backTo pos (starEach es X.env)).any (·.1) = false := by rfl) : JE X (.Call (.Name "sum" p) (e :: es) [] pos) ρ S P B :=
  je_callB (cr_sumL hc) hg hm (show bootBuiltins "sum" = some (.builtin "sum") by decide +kernel) (h.mono fun ds S ⟨xss, e1, hz, q⟩ u H vs Q hS r hQ => by
    subst e1
    obtain ⟨v, w, rfl, r0, r1⟩ := rpA2 r
    cases r0 with
    | lst hq rq =>
      obtain ⟨ls, f, rfl, hl, hf, ra⟩ := rp_lists 0 rq
      cases r1 with
      | lst hq1 rq1 =>
        cases rq1
        refine ⟨_, _, ls, f, [], rfl, hq.sq, hq1.1, fun j l e => by have := hf j l e; rw [Nat.zero_add] at this; exact this, ?_, fun e => ?_, fun p hp => ?_⟩
        · rw [ra.length]; simpa using hz
        · subst e
          have : xss = [] := List.eq_nil_of_length_eq_zero hl.symm
          subst this
          exact hQ _ _ (.here hS (.lst hq1 .nil) q)
        · exact hQ _ _ (good_lst hS hp ra q)) (by decide) (by decide) he hpl
/-- xs.index(y), ints -/
theorem je_indexI {o : Expr} {apos cpos : Pos} (h : JE X o ρ S (fun d S1 => ∃ xs : List Int, d = .lst (intsD xs) ∧ JA X [e] ρ S1 (fun ds S2 => ∃ (y : Int) (j : Nat), ds = [.int y] ∧ xs[j]? = some y ∧ (∀ m, m < j → xs[m]? ≠ some y) ∧ P (.int j) S2) B) B)
    (hbase : attributeBase o "index" X.env (eval o X.env) = eval o X.env := by rfl)
    (hfew : ((backTo cpos (starEach [e] X.env)).all (fun x => !x.1) && (backToKw cpos (keywordEach [] X.env)).all (fun x => x.1.isSome) && decide ([e].length + ([] : List Keyword).length + (if ([] : List Keyword).isEmpty then 0 else 1) < 30)) = true := by rfl)
    (hline : (apos.endLine == cpos.line) = true := by rfl) (hs : starEach [e] X.env = (false, eval e X.env) :: starEach [] X.env := by rfl) (hplain : (backTo cpos (starEach [] X.env)).any (·.1) = false := by rfl) :
    JE X (.Call (.Attribute o "index" apos) [e] [] cpos) ρ S P B :=
  je_bm PySem.F.plainAttrs_list PySem.F.slot_list_index PySem.F.type_list_index mt_index (h.mono fun d S1 ⟨xs, e0, q⟩ => by
    subst e0
    refine ⟨fun K u H v hS r => ?_, q.mono fun ds S2 ⟨y, j, e2, e3, hn, q2⟩ u H v vs Q hS r ra hQ => ?_⟩
    · cases r with
      | lst hq _ => exact .inl ⟨rfl, _, .inl (.inl hq.1)⟩
    · subst e2
      obtain ⟨w, rfl, r0⟩ := rpA1 ra
      cases r0
      cases r with
      | lst hq rq =>
        have ev := intsD_of rq
        subst ev
        refine ⟨_, _, _, j, .int y, rfl, rfl, hq.sq, rfl, ?_, ?_, ?_, ?_, hQ _ _ (.here hS (.int _) q2)⟩
        · rw [List.all_eq_true]; intro v hv
          obtain ⟨i, _, rfl⟩ := List.mem_map.mp hv; rfl
        · rw [List.getElem?_map, e3]; rfl
        · simp [eqV]
        · intro m z hm hz
          rw [List.getElem?_map] at hz
          cases q : xs[m]? with
          | none => rw [q] at hz; cases hz
          | some i =>
            rw [q] at hz; cases hz
            have : i ≠ y := fun z => hn m hm (by rw [q, z])
            simp [eqV, this]) hbase hfew hline hs hplain
end
end J
namespace J
open PySem PySem.Spec PyProof.Rows L2
section
variable {X : Cx} {scope : Scope} {elt : Expr} {c : DC} {ρ : Sl} {S : Store} {acc : List D} {k : Store → List D → Prop} {inn : Sl → Store → List D → (Store → List D → Prop) → Prop} {α : Type}
/-- a clause that leaves the store alone -/
theorem lpp_flat (enc : α → D) (t : α → Bool) (g : α → List D) : ∀ (xs : List α) (acc : List D), (∀ a ∈ xs, ∃ ρ1, c.tg.set (enc a) (wipeD ρ c.tg.ixs) = some ρ1 ∧ (∀ b PT, PT (t a) S → JTs (bpX X scope b) c.ifs ρ1 S PT B0) ∧ (t a = true → ∀ acc k', acc.length + (g a).length ≤ sizeLine → k' S (acc ++ g a) → inn ρ1 S acc k')) →
    acc.length + ((xs.filter t).flatMap g).length ≤ sizeLine → k S (acc ++ (xs.filter t).flatMap g) → LpP X scope c inn ρ k (xs.map enc) S acc
  | [], acc, _, _, hk => by
    rw [List.filter_nil, List.flatMap_nil, List.append_nil] at hk
    exact hk
  | a :: xs, acc, h, hz, hk => by
    obtain ⟨ρ1, e, h1, h2⟩ := h a (List.mem_cons_self ..)
    have ht := fun x hx => h x (List.mem_cons_of_mem _ hx)
    refine ⟨ρ1, e, fun b => h1 b _ ⟨fun z => ?_, fun z => ?_⟩⟩
    · rw [List.filter_cons, if_pos z, List.flatMap_cons] at hz hk
      rw [List.length_append] at hz
      refine h2 z acc _ (by omega) (lpp_flat enc t g xs (acc ++ g a) ht (by rw [List.length_append]; omega) (by rw [List.append_assoc]; exact hk))
    · rw [List.filter_cons, if_neg (by rw [z]; exact Bool.false_ne_true)] at hz hk
      exact lpp_flat enc t g xs acc ht hz hk
theorem inn_one {d : D} (h : ∀ b PP, PP d S → JE (bpX X scope b) elt ρ S PP B0) (acc : List D) (k' : Store → List D → Prop) (hz : acc.length + [d].length ≤ sizeLine) (hk : k' S (acc ++ [d])) : InP X scope elt [] ρ S acc k' :=
  fun b => h b _ ⟨hz, hk⟩
theorem lpp_map (enc : α → D) (f : α → D) (xs : List α) (hi : c.ifs = []) (h : ∀ a ∈ xs, ∃ ρ1, c.tg.set (enc a) (wipeD ρ c.tg.ixs) = some ρ1 ∧ ∀ b PP, PP (f a) S → JE (bpX X scope b) elt ρ1 S PP B0)
    (hz : xs.length ≤ sizeLine) (hk : k S (xs.map f)) : LpP X scope c (InP X scope elt []) ρ k (xs.map enc) S [] := by
  have e : ∀ ys : List α, (ys.filter fun _ => true).flatMap (fun a => [f a]) = ys.map f := fun ys => by
    rw [List.filter_eq_self.mpr (fun _ _ => rfl)]
    induction ys with
    | nil => rfl
    | cons a ys ih => rw [List.flatMap_cons, ih]; rfl
  refine lpp_flat enc (fun _ => true) (fun a => [f a]) xs [] (fun a ha => ?_) (by rw [e, List.length_map, List.length_nil, Nat.zero_add]; exact hz) (by rw [e]; exact hk)
  obtain ⟨ρ1, e1, h1⟩ := h a ha
  exact ⟨ρ1, e1, fun b PT q => by rw [hi]; exact jts_nil q, fun _ acc k' hz hk => inn_one h1 acc k' hz hk⟩
theorem lpp_filt {cond : Expr} (enc : α → D) (t : α → Bool) (f : α → D) (xs : List α) (hi : c.ifs = [cond]) (h : ∀ a ∈ xs, ∃ ρ1, c.tg.set (enc a) (wipeD ρ c.tg.ixs) = some ρ1 ∧ (∀ b PT, PT (t a) S → JT (bpX X scope b) cond ρ1 S PT B0) ∧ (t a = true → ∀ b PP, PP (f a) S → JE (bpX X scope b) elt ρ1 S PP B0))
    (hz : (xs.filter t).length ≤ sizeLine) (hk : k S ((xs.filter t).map f)) : LpP X scope c (InP X scope elt []) ρ k (xs.map enc) S [] := by
  have e : ∀ ys : List α, ys.flatMap (fun a => [f a]) = ys.map f := fun ys => by
    induction ys with
    | nil => rfl
    | cons a ys ih => rw [List.flatMap_cons, ih]; rfl
  refine lpp_flat enc t (fun a => [f a]) xs [] (fun a ha => ?_) (by rw [e, List.length_map, List.length_nil, Nat.zero_add]; exact hz) (by rw [e]; exact hk)
  obtain ⟨ρ1, e1, h1, h2⟩ := h a ha
  exact ⟨ρ1, e1, fun b PT q => by rw [hi]; exact jts_one (h1 b _ q), fun z acc k' hz hk => inn_one (h2 z) acc k' hz hk⟩
theorem JIt.mono {tgE iter : Expr} {PL PL' : List D → Store → Prop} {B : Bad} (h : JIt X tgE iter ρ S PL B) (hp : ∀ ds S, PL ds S → PL' ds S) : JIt X tgE iter ρ S PL' B := by
  obtain ⟨wi, h1, h2⟩ := h
  exact ⟨wi, h1, fun u σ H R hW hS hE hR => h2 u σ H R hW hS hE fun J H1 u1 items S1 A1 hS1 F q => hR J H1 u1 items S1 A1 hS1 F (hp _ _ q)⟩
theorem JTs.mono {ifs : List Expr} {PT PT' : Bool → Store → Prop} {B : Bad} (h : JTs X ifs ρ S PT B) (hp : ∀ t S, PT t S → PT' t S) : JTs X ifs ρ S PT' B := fun u σ H Q hW hS hE hQ =>
  h u σ H Q hW hS hE fun v H' ⟨u', S', A', hS', q⟩ => hQ v H' ⟨u', S', A', hS', hp _ _ q⟩
theorem LpP.mono {inn : Sl → Store → List D → (Store → List D → Prop) → Prop} (hi : ∀ ρ S acc k k', (∀ S acc, k S acc → k' S acc) → inn ρ S acc k → inn ρ S acc k') {k k' : Store → List D → Prop} (hk : ∀ S acc, k S acc → k' S acc) : ∀ {ds : List D} {S : Store} {acc : List D}, LpP X scope c inn ρ k ds S acc → LpP X scope c inn ρ k' ds S acc
  | [], _, _, h => hk _ _ h
  | d :: ds, _, _, ⟨ρ1, e, h⟩ => ⟨ρ1, e, fun b => (h b).mono fun t S q => ⟨fun z => hi _ _ _ _ _ (fun S acc q => LpP.mono hi hk q) (q.1 z), fun z => LpP.mono hi hk (q.2 z)⟩⟩
theorem InP.mono : ∀ {cs : List DC} {ρ : Sl} {S : Store} {acc : List D} {k k' : Store → List D → Prop}, (∀ S acc, k S acc → k' S acc) → InP X scope elt cs ρ S acc k → InP X scope elt cs ρ S acc k'
  | [], _, _, _, _, _, hk, h => fun b => (h b).mono fun d S q => ⟨q.1, hk _ _ q.2⟩
  | c :: cs, _, _, _, _, _, hk, h => fun b => (h b).mono fun d S q => LpP.mono (inn := InP X scope elt cs) (fun ρ S acc k k' hk q => InP.mono (cs := cs) hk q) hk q
/-- a clause by what holds in between -/
theorem lpp_inv {cs : List DC} (Iv : List D → Store → List D → Prop) (h : ∀ d ds S acc, Iv (d :: ds) S acc → ∃ ρ1, c.tg.set d (wipeD ρ c.tg.ixs) = some ρ1 ∧ ∀ b, JTs (bpX X scope b) c.ifs ρ1 S (fun t S1 => (t = true → InP X scope elt cs ρ1 S1 acc fun S2 acc2 => Iv ds S2 acc2) ∧ (t = false → Iv ds S1 acc)) B0)
    (hend : ∀ S acc, Iv [] S acc → k S acc) : ∀ {items : List D} {S : Store} {acc : List D}, Iv items S acc → LpP X scope c (InP X scope elt cs) ρ k items S acc
  | [], _, _, q => hend _ _ q
  | d :: ds, _, _, q => by
    obtain ⟨ρ1, e, hb⟩ := h d ds _ _ q
    exact ⟨ρ1, e, fun b => (hb b).mono fun t S q => ⟨fun z => InP.mono (fun S acc q => lpp_inv Iv h hend q) (q.1 z), fun z => lpp_inv Iv h hend (q.2 z)⟩⟩
end
section
variable {X : Cx} {n : Nat} {body : List Stmt} {tg : Tg} {P : Out → Prop} {B : Bad}
def BodyP (Iv : Sl → Store → Prop) (P : Out → Prop) : Out → Prop
  | .nx ρ S => Iv ρ S
  | .ct ρ S => Iv ρ S
  | .bk ρ S => P (.nx ρ S)
  | .rt d S => P (.rt d S)
/-- a loop by what holds in between -/
theorem loop_inv (Iv : List D → Sl → Store → Prop) (h : ∀ d ds ρ S, Iv (d :: ds) ρ S → ∃ ρ1, tg.set d ρ = some ρ1 ∧ JSs n X body ρ1 S (BodyP (Iv ds) P) B) (hend : ∀ ρ S, Iv [] ρ S → P (.nx ρ S)) :
    ∀ {items : List D} {ρ : Sl} {S : Store}, Iv items ρ S → LoopP n X body tg P B items ρ S
  | [], _, _, q => hend _ _ q
  | d :: ds, _, _, q => by
    obtain ⟨ρ1, e, hb⟩ := h d ds _ _ q
    exact ⟨ρ1, e, hb.mono fun o q => match o, q with
      | .nx ρ S, q => loop_inv Iv h hend q
      | .ct ρ S, q => loop_inv Iv h hend q
      | .bk ρ S, q => q
      | .rt d S, q => q⟩
end
/-- enumerate's rows -/
theorem enum_map {α : Type} (enc : α → D) (xs : List α) : (List.range (xs.map enc).length).zipWith (fun (i : Nat) d => D.tup [.int i, d]) (xs.map enc) = ((List.range xs.length).zip xs).map fun p => D.tup [.int (p.1 : Nat), enc p.2] := by
  rw [List.length_map, List.zipWith_map_right, List.zip_eq_zipWith, List.map_zipWith]
end J
namespace J
open PySem PySem.Spec PyProof.Rows L2
section
variable {X : Cx} {tgE l a b : Expr} {ρ : Sl} {S : Store} {P : List D → Store → Prop} {B : Bad} {p pos tpos : Pos} {elts : List Expr} {kk : Nat}
theorem sh_it (x : Str) {as : List Expr} {ks} (h : JIt X tgE (.Call (.Name x p) as ks pos) ρ S P B) : JIt X tgE (.Call (.Name x p) as ks pos) ρ S P B := h
theorem sh_itn {x : Str} (h : JIt X tgE (.Name x p) ρ S P B) : JIt X tgE (.Name x p) ρ S P B := h
theorem jit_list (h : JE X l ρ S (fun d S1 => ∃ ds, d = .lst ds ∧ P ds S1) B) : JIt X tgE l ρ S P B := ⟨_, pi_list pe_w, ji_list h⟩
theorem jit_tup (h : JE X l ρ S (fun d S1 => ∃ ds, d = .tup ds ∧ P ds S1) B) : JIt X tgE l ρ S P B := ⟨_, pi_tup pe_w, ji_tup h⟩
theorem jit_range1 (hg : Gl X "range") (hm : X.mg "range" = none) (h : JA X [a] ρ S (fun ds S1 => ∃ j : Int, ds = [.int j] ∧ -(2 ^ 62) ≤ j ∧ j < 2 ^ 62 ∧ P (irow 0 j.toNat) S1) B) (hs : starEach [a] X.env = [(false, eval a X.env)] := by rfl) : JIt X tgE (.Call (.Name "range" p) [a] [] pos) ρ S P B := ⟨_, pi_range1 hg hm pa_w hs, ji_range1 h⟩
theorem jit_enum (hg : Gl X "enumerate") (hm : X.mg "enumerate" = none) (h : JA X [a] ρ S (fun ds S1 => ∃ xs, ds = [.lst xs] ∧ P ((List.range xs.length).zipWith (fun (i : Nat) d => D.tup [.int i, d]) xs) S1) B) (hs : starEach [a] X.env = [(false, eval a X.env)] := by rfl) : JIt X (.Tuple elts kk tpos) (.Call (.Name "enumerate" p) [a] [] pos) ρ S P B := ⟨_, pi_enum hg hm pa_w hs, ji_enum h⟩
theorem jit_zip (hg : Gl X "zip") (hm : X.mg "zip" = none) (h : JA X [a, b] ρ S (fun ds S1 => ∃ xs ys, ds = [.lst xs, .lst ys] ∧ P (xs.zipWith (fun d e => D.tup [d, e]) ys) S1) B) (hs : starEach [a, b] X.env = (false, eval a X.env) :: starEach [b] X.env := by rfl) (hpl : (backTo pos (starEach [b] X.env)).any (·.1) = false := by rfl) : JIt X (.Tuple elts kk tpos) (.Call (.Name "zip" p) [a, b] [] pos) ρ S P B := ⟨_, pi_zip hg hm pa_w hs hpl, ji_zip h⟩
end
section
variable {X : Cx} {n : Nat} {S : Store} {ρ : Sl} {P : Out → Prop} {B : Bad} {pos : Pos}
theorem js_forT {tgE iter : Expr} {body : List Stmt} (tg : Tg) (hp : PassesOwn (model X.prog X.w) X.A X.env X.xe) (hc : X.calm = true) (hg : PG X tgE (tg.g X.K))
    (h : JIt X tgE iter ρ S (fun items S1 => LoopP S1.length X body tg P B items ρ S1) B) (hs : ∀ x, foldedSetIterable iter X.env x = pure x := by intro _; rfl) : JS n X (.For tgE iter body [] pos) ρ S P B :=
  js_for tg hp hc pi_w hg h.ji hs
end
end J
namespace J
open PySem PySem.Spec PyProof.Rows L2
section
variable {X : Cx} {scope : Scope} {elt tgE iter tgE1 iter1 tgE2 iter2 : Expr} {ifs ifs1 ifs2 : List Expr} {ρ : Sl} {S : Store} {P : D → Store → Prop} {PO : Out → Prop} {B : Bad} {pos spos py : Pos} {y : Str} {n : Nat}
theorem je_lc1 (tg : Tg) (own : List (Str × Nat)) (hc : X.calm = true) (hN : X.N.Nodup) (ok : blkC X.N X.env.scope scope own = true) (hg : ∀ b, PG (bpX X scope b) tgE (tg.g X.K))
    (h : JIt X tgE iter ρ S (fun items S1 => LpP X scope (⟨tgE, iter, ifs, tg⟩ : DC) (InP X scope elt []) (wipeD ρ (own.map (·.2))) (EndL P) items S1 []) B)
    (dj : ∀ i ∈ ([] : List DC).flatMap (·.tg.ixs), i ∉ tg.ixs := by decide)
    (hv : ∀ i ∈ ([(⟨tgE, iter, ifs, tg⟩ : DC)] : List DC).flatMap (·.tg.ixs), i ∈ own.map (·.2) := by decide) (hs : ∀ x, foldedSetIterable iter X.env x = pure x := by intro _; rfl)  :
    JE X (.ListComp elt [⟨tgE, iter, ifs, 0⟩] scope pos) ρ S P B :=
  je_lcG (c0 := (⟨tgE, iter, ifs, tg⟩ : DC)) (cs := []) (.inl rfl) hc hN (blkOk_by ok) hg trivial dj hv hs h
theorem js_lc1 {i : Nat} (hy : X.N[i]? = some y) (hyl : X.env.scope.names.lookup y = some .local) (tg : Tg) (own : List (Str × Nat)) (hc : X.calm = true) (hN : X.N.Nodup) (ok : blkC X.N X.env.scope scope own = true) (hg : ∀ b, PG (bpX X scope b) tgE (tg.g X.K))
    (h : JIt X tgE iter ρ S (fun items S1 => LpP X scope (⟨tgE, iter, ifs, tg⟩ : DC) (InP X scope elt []) (wipeD ρ (own.map (·.2))) (EndL (fun d S => PO (.nx (ρ.set i (some d)) S))) items S1 []) B)
    (dj : ∀ i ∈ ([] : List DC).flatMap (·.tg.ixs), i ∉ tg.ixs := by decide)
    (hv : ∀ i ∈ ([(⟨tgE, iter, ifs, tg⟩ : DC)] : List DC).flatMap (·.tg.ixs), i ∈ own.map (·.2) := by decide) (hs : ∀ x, foldedSetIterable iter X.env x = pure x := by intro _; rfl) 
    (hsw : swapsWith (.ListComp elt [⟨tgE, iter, ifs, 0⟩] scope pos) (some (.Name y py)) spos.line X.env = pure true := by rfl) :
    JS n X (.Assign [.Name y py] (.ListComp elt [⟨tgE, iter, ifs, 0⟩] scope pos) spos) ρ S PO B :=
  js_setLcG (c0 := (⟨tgE, iter, ifs, tg⟩ : DC)) (cs := []) (.inl rfl) hc hN hy hyl hsw (blkOk_by ok) hg trivial dj hv hs h
theorem je_lc2 (tg : Tg) (tg1 : Tg) (own : List (Str × Nat)) (hc : X.calm = true) (hN : X.N.Nodup) (ok : blkC X.N X.env.scope scope own = true) (hg : ∀ b, PG (bpX X scope b) tgE (tg.g X.K)) (hg1 : ∀ b, PG (bpX X scope b) tgE1 (tg1.g X.K))
    (h : JIt X tgE iter ρ S (fun items S1 => LpP X scope (⟨tgE, iter, ifs, tg⟩ : DC) (InP X scope elt [(⟨tgE1, iter1, ifs1, tg1⟩ : DC)]) (wipeD ρ (own.map (·.2))) (EndL P) items S1 []) B)
    (dj : ∀ i ∈ ([(⟨tgE1, iter1, ifs1, tg1⟩ : DC)] : List DC).flatMap (·.tg.ixs), i ∉ tg.ixs := by decide) (dj1 : ∀ i ∈ ([] : List DC).flatMap (·.tg.ixs), i ∉ tg1.ixs := by decide)
    (hv : ∀ i ∈ ([(⟨tgE, iter, ifs, tg⟩ : DC), (⟨tgE1, iter1, ifs1, tg1⟩ : DC)] : List DC).flatMap (·.tg.ixs), i ∈ own.map (·.2) := by decide) (hs : ∀ x, foldedSetIterable iter X.env x = pure x := by intro _; rfl) (hs1 : ∀ env x, foldedSetIterable iter1 env x = pure x := by intro _ _; rfl) :
    JE X (.ListComp elt [⟨tgE, iter, ifs, 0⟩, ⟨tgE1, iter1, ifs1, 0⟩] scope pos) ρ S P B :=
  je_lcG (c0 := (⟨tgE, iter, ifs, tg⟩ : DC)) (cs := [(⟨tgE1, iter1, ifs1, tg1⟩ : DC)]) (.inl rfl) hc hN (blkOk_by ok) hg ⟨hg1, hs1, (fun i hi => dj1 i hi), trivial⟩ dj hv hs h
theorem js_lc2 {i : Nat} (hy : X.N[i]? = some y) (hyl : X.env.scope.names.lookup y = some .local) (tg : Tg) (tg1 : Tg) (own : List (Str × Nat)) (hc : X.calm = true) (hN : X.N.Nodup) (ok : blkC X.N X.env.scope scope own = true) (hg : ∀ b, PG (bpX X scope b) tgE (tg.g X.K)) (hg1 : ∀ b, PG (bpX X scope b) tgE1 (tg1.g X.K))
    (h : JIt X tgE iter ρ S (fun items S1 => LpP X scope (⟨tgE, iter, ifs, tg⟩ : DC) (InP X scope elt [(⟨tgE1, iter1, ifs1, tg1⟩ : DC)]) (wipeD ρ (own.map (·.2))) (EndL (fun d S => PO (.nx (ρ.set i (some d)) S))) items S1 []) B)
    (dj : ∀ i ∈ ([(⟨tgE1, iter1, ifs1, tg1⟩ : DC)] : List DC).flatMap (·.tg.ixs), i ∉ tg.ixs := by decide) (dj1 : ∀ i ∈ ([] : List DC).flatMap (·.tg.ixs), i ∉ tg1.ixs := by decide)
    (hv : ∀ i ∈ ([(⟨tgE, iter, ifs, tg⟩ : DC), (⟨tgE1, iter1, ifs1, tg1⟩ : DC)] : List DC).flatMap (·.tg.ixs), i ∈ own.map (·.2) := by decide) (hs : ∀ x, foldedSetIterable iter X.env x = pure x := by intro _; rfl) (hs1 : ∀ env x, foldedSetIterable iter1 env x = pure x := by intro _ _; rfl)
    (hsw : swapsWith (.ListComp elt [⟨tgE, iter, ifs, 0⟩, ⟨tgE1, iter1, ifs1, 0⟩] scope pos) (some (.Name y py)) spos.line X.env = pure true := by rfl) :
    JS n X (.Assign [.Name y py] (.ListComp elt [⟨tgE, iter, ifs, 0⟩, ⟨tgE1, iter1, ifs1, 0⟩] scope pos) spos) ρ S PO B :=
  js_setLcG (c0 := (⟨tgE, iter, ifs, tg⟩ : DC)) (cs := [(⟨tgE1, iter1, ifs1, tg1⟩ : DC)]) (.inl rfl) hc hN hy hyl hsw (blkOk_by ok) hg ⟨hg1, hs1, (fun i hi => dj1 i hi), trivial⟩ dj hv hs h
theorem je_lc3 (tg : Tg) (tg1 : Tg) (tg2 : Tg) (own : List (Str × Nat)) (hc : X.calm = true) (hN : X.N.Nodup) (ok : blkC X.N X.env.scope scope own = true) (hg : ∀ b, PG (bpX X scope b) tgE (tg.g X.K)) (hg1 : ∀ b, PG (bpX X scope b) tgE1 (tg1.g X.K)) (hg2 : ∀ b, PG (bpX X scope b) tgE2 (tg2.g X.K))
    (h : JIt X tgE iter ρ S (fun items S1 => LpP X scope (⟨tgE, iter, ifs, tg⟩ : DC) (InP X scope elt [(⟨tgE1, iter1, ifs1, tg1⟩ : DC), (⟨tgE2, iter2, ifs2, tg2⟩ : DC)]) (wipeD ρ (own.map (·.2))) (EndL P) items S1 []) B)
    (dj : ∀ i ∈ ([(⟨tgE1, iter1, ifs1, tg1⟩ : DC), (⟨tgE2, iter2, ifs2, tg2⟩ : DC)] : List DC).flatMap (·.tg.ixs), i ∉ tg.ixs := by decide) (dj1 : ∀ i ∈ ([(⟨tgE2, iter2, ifs2, tg2⟩ : DC)] : List DC).flatMap (·.tg.ixs), i ∉ tg1.ixs := by decide) (dj2 : ∀ i ∈ ([] : List DC).flatMap (·.tg.ixs), i ∉ tg2.ixs := by decide)
    (hv : ∀ i ∈ ([(⟨tgE, iter, ifs, tg⟩ : DC), (⟨tgE1, iter1, ifs1, tg1⟩ : DC), (⟨tgE2, iter2, ifs2, tg2⟩ : DC)] : List DC).flatMap (·.tg.ixs), i ∈ own.map (·.2) := by decide) (hs : ∀ x, foldedSetIterable iter X.env x = pure x := by intro _; rfl) (hs1 : ∀ env x, foldedSetIterable iter1 env x = pure x := by intro _ _; rfl) (hs2 : ∀ env x, foldedSetIterable iter2 env x = pure x := by intro _ _; rfl) :
    JE X (.ListComp elt [⟨tgE, iter, ifs, 0⟩, ⟨tgE1, iter1, ifs1, 0⟩, ⟨tgE2, iter2, ifs2, 0⟩] scope pos) ρ S P B :=
  je_lcG (c0 := (⟨tgE, iter, ifs, tg⟩ : DC)) (cs := [(⟨tgE1, iter1, ifs1, tg1⟩ : DC), (⟨tgE2, iter2, ifs2, tg2⟩ : DC)]) (.inl rfl) hc hN (blkOk_by ok) hg ⟨hg1, hs1, (fun i hi => dj1 i hi), ⟨hg2, hs2, (fun i hi => dj2 i hi), trivial⟩⟩ dj hv hs h
theorem js_lc3 {i : Nat} (hy : X.N[i]? = some y) (hyl : X.env.scope.names.lookup y = some .local) (tg : Tg) (tg1 : Tg) (tg2 : Tg) (own : List (Str × Nat)) (hc : X.calm = true) (hN : X.N.Nodup) (ok : blkC X.N X.env.scope scope own = true) (hg : ∀ b, PG (bpX X scope b) tgE (tg.g X.K)) (hg1 : ∀ b, PG (bpX X scope b) tgE1 (tg1.g X.K)) (hg2 : ∀ b, PG (bpX X scope b) tgE2 (tg2.g X.K))
    (h : JIt X tgE iter ρ S (fun items S1 => LpP X scope (⟨tgE, iter, ifs, tg⟩ : DC) (InP X scope elt [(⟨tgE1, iter1, ifs1, tg1⟩ : DC), (⟨tgE2, iter2, ifs2, tg2⟩ : DC)]) (wipeD ρ (own.map (·.2))) (EndL (fun d S => PO (.nx (ρ.set i (some d)) S))) items S1 []) B)
    (dj : ∀ i ∈ ([(⟨tgE1, iter1, ifs1, tg1⟩ : DC), (⟨tgE2, iter2, ifs2, tg2⟩ : DC)] : List DC).flatMap (·.tg.ixs), i ∉ tg.ixs := by decide) (dj1 : ∀ i ∈ ([(⟨tgE2, iter2, ifs2, tg2⟩ : DC)] : List DC).flatMap (·.tg.ixs), i ∉ tg1.ixs := by decide) (dj2 : ∀ i ∈ ([] : List DC).flatMap (·.tg.ixs), i ∉ tg2.ixs := by decide)
    (hv : ∀ i ∈ ([(⟨tgE, iter, ifs, tg⟩ : DC), (⟨tgE1, iter1, ifs1, tg1⟩ : DC), (⟨tgE2, iter2, ifs2, tg2⟩ : DC)] : List DC).flatMap (·.tg.ixs), i ∈ own.map (·.2) := by decide) (hs : ∀ x, foldedSetIterable iter X.env x = pure x := by intro _; rfl) (hs1 : ∀ env x, foldedSetIterable iter1 env x = pure x := by intro _ _; rfl) (hs2 : ∀ env x, foldedSetIterable iter2 env x = pure x := by intro _ _; rfl)
    (hsw : swapsWith (.ListComp elt [⟨tgE, iter, ifs, 0⟩, ⟨tgE1, iter1, ifs1, 0⟩, ⟨tgE2, iter2, ifs2, 0⟩] scope pos) (some (.Name y py)) spos.line X.env = pure true := by rfl) :
    JS n X (.Assign [.Name y py] (.ListComp elt [⟨tgE, iter, ifs, 0⟩, ⟨tgE1, iter1, ifs1, 0⟩, ⟨tgE2, iter2, ifs2, 0⟩] scope pos) spos) ρ S PO B :=
  js_setLcG (c0 := (⟨tgE, iter, ifs, tg⟩ : DC)) (cs := [(⟨tgE1, iter1, ifs1, tg1⟩ : DC), (⟨tgE2, iter2, ifs2, tg2⟩ : DC)]) (.inl rfl) hc hN hy hyl hsw (blkOk_by ok) hg ⟨hg1, hs1, (fun i hi => dj1 i hi), ⟨hg2, hs2, (fun i hi => dj2 i hi), trivial⟩⟩ dj hv hs h
theorem je_lc1P (tg : Tg) (own : List (Str × Nat)) (hc : X.calm = true) (hN : X.N.Nodup) (ok : blkC X.N X.env.scope scope own = true) (hg : ∀ b, PG (bpX X scope b) tgE (tg.g X.K))
    (h : JIt X tgE iter ρ S (fun items S1 => LpP X scope (⟨tgE, iter, ifs, tg⟩ : DC) (InP X scope elt []) (wipeD ρ (own.map (·.2))) (EndP P) items S1 []) B)
    (dj : ∀ i ∈ ([] : List DC).flatMap (·.tg.ixs), i ∉ tg.ixs := by decide)
    (hv : ∀ i ∈ ([(⟨tgE, iter, ifs, tg⟩ : DC)] : List DC).flatMap (·.tg.ixs), i ∈ own.map (·.2) := by decide) (hs : ∀ x, foldedSetIterable iter X.env x = pure x := by intro _; rfl)  :
    JE X (.ListComp elt [⟨tgE, iter, ifs, 0⟩] scope pos) ρ S P B :=
  je_lcG (c0 := (⟨tgE, iter, ifs, tg⟩ : DC)) (cs := []) (.inr rfl) hc hN (blkOk_by ok) hg trivial dj hv hs h
theorem js_lc1P {i : Nat} (hy : X.N[i]? = some y) (hyl : X.env.scope.names.lookup y = some .local) (tg : Tg) (own : List (Str × Nat)) (hc : X.calm = true) (hN : X.N.Nodup) (ok : blkC X.N X.env.scope scope own = true) (hg : ∀ b, PG (bpX X scope b) tgE (tg.g X.K))
    (h : JIt X tgE iter ρ S (fun items S1 => LpP X scope (⟨tgE, iter, ifs, tg⟩ : DC) (InP X scope elt []) (wipeD ρ (own.map (·.2))) (EndP (fun d S => PO (.nx (ρ.set i (some d)) S))) items S1 []) B)
    (dj : ∀ i ∈ ([] : List DC).flatMap (·.tg.ixs), i ∉ tg.ixs := by decide)
    (hv : ∀ i ∈ ([(⟨tgE, iter, ifs, tg⟩ : DC)] : List DC).flatMap (·.tg.ixs), i ∈ own.map (·.2) := by decide) (hs : ∀ x, foldedSetIterable iter X.env x = pure x := by intro _; rfl) 
    (hsw : swapsWith (.ListComp elt [⟨tgE, iter, ifs, 0⟩] scope pos) (some (.Name y py)) spos.line X.env = pure true := by rfl) :
    JS n X (.Assign [.Name y py] (.ListComp elt [⟨tgE, iter, ifs, 0⟩] scope pos) spos) ρ S PO B :=
  js_setLcG (c0 := (⟨tgE, iter, ifs, tg⟩ : DC)) (cs := []) (.inr rfl) hc hN hy hyl hsw (blkOk_by ok) hg trivial dj hv hs h
theorem je_lc2P (tg : Tg) (tg1 : Tg) (own : List (Str × Nat)) (hc : X.calm = true) (hN : X.N.Nodup) (ok : blkC X.N X.env.scope scope own = true) (hg : ∀ b, PG (bpX X scope b) tgE (tg.g X.K)) (hg1 : ∀ b, PG (bpX X scope b) tgE1 (tg1.g X.K))
    (h : JIt X tgE iter ρ S (fun items S1 => LpP X scope (⟨tgE, iter, ifs, tg⟩ : DC) (InP X scope elt [(⟨tgE1, iter1, ifs1, tg1⟩ : DC)]) (wipeD ρ (own.map (·.2))) (EndP P) items S1 []) B)
    (dj : ∀ i ∈ ([(⟨tgE1, iter1, ifs1, tg1⟩ : DC)] : List DC).flatMap (·.tg.ixs), i ∉ tg.ixs := by decide) (dj1 : ∀ i ∈ ([] : List DC).flatMap (·.tg.ixs), i ∉ tg1.ixs := by decide)
    (hv : ∀ i ∈ ([(⟨tgE, iter, ifs, tg⟩ : DC), (⟨tgE1, iter1, ifs1, tg1⟩ : DC)] : List DC).flatMap (·.tg.ixs), i ∈ own.map (·.2) := by decide) (hs : ∀ x, foldedSetIterable iter X.env x = pure x := by intro _; rfl) (hs1 : ∀ env x, foldedSetIterable iter1 env x = pure x := by intro _ _; rfl) :
    JE X (.ListComp elt [⟨tgE, iter, ifs, 0⟩, ⟨tgE1, iter1, ifs1, 0⟩] scope pos) ρ S P B :=
  je_lcG (c0 := (⟨tgE, iter, ifs, tg⟩ : DC)) (cs := [(⟨tgE1, iter1, ifs1, tg1⟩ : DC)]) (.inr rfl) hc hN (blkOk_by ok) hg ⟨hg1, hs1, (fun i hi => dj1 i hi), trivial⟩ dj hv hs h
theorem js_lc2P {i : Nat} (hy : X.N[i]? = some y) (hyl : X.env.scope.names.lookup y = some .local) (tg : Tg) (tg1 : Tg) (own : List (Str × Nat)) (hc : X.calm = true) (hN : X.N.Nodup) (ok : blkC X.N X.env.scope scope own = true) (hg : ∀ b, PG (bpX X scope b) tgE (tg.g X.K)) (hg1 : ∀ b, PG (bpX X scope b) tgE1 (tg1.g X.K))
    (h : JIt X tgE iter ρ S (fun items S1 => LpP X scope (⟨tgE, iter, ifs, tg⟩ : DC) (InP X scope elt [(⟨tgE1, iter1, ifs1, tg1⟩ : DC)]) (wipeD ρ (own.map (·.2))) (EndP (fun d S => PO (.nx (ρ.set i (some d)) S))) items S1 []) B)
    (dj : ∀ i ∈ ([(⟨tgE1, iter1, ifs1, tg1⟩ : DC)] : List DC).flatMap (·.tg.ixs), i ∉ tg.ixs := by decide) (dj1 : ∀ i ∈ ([] : List DC).flatMap (·.tg.ixs), i ∉ tg1.ixs := by decide)
    (hv : ∀ i ∈ ([(⟨tgE, iter, ifs, tg⟩ : DC), (⟨tgE1, iter1, ifs1, tg1⟩ : DC)] : List DC).flatMap (·.tg.ixs), i ∈ own.map (·.2) := by decide) (hs : ∀ x, foldedSetIterable iter X.env x = pure x := by intro _; rfl) (hs1 : ∀ env x, foldedSetIterable iter1 env x = pure x := by intro _ _; rfl)
    (hsw : swapsWith (.ListComp elt [⟨tgE, iter, ifs, 0⟩, ⟨tgE1, iter1, ifs1, 0⟩] scope pos) (some (.Name y py)) spos.line X.env = pure true := by rfl) :
    JS n X (.Assign [.Name y py] (.ListComp elt [⟨tgE, iter, ifs, 0⟩, ⟨tgE1, iter1, ifs1, 0⟩] scope pos) spos) ρ S PO B :=
  js_setLcG (c0 := (⟨tgE, iter, ifs, tg⟩ : DC)) (cs := [(⟨tgE1, iter1, ifs1, tg1⟩ : DC)]) (.inr rfl) hc hN hy hyl hsw (blkOk_by ok) hg ⟨hg1, hs1, (fun i hi => dj1 i hi), trivial⟩ dj hv hs h
theorem je_lc3P (tg : Tg) (tg1 : Tg) (tg2 : Tg) (own : List (Str × Nat)) (hc : X.calm = true) (hN : X.N.Nodup) (ok : blkC X.N X.env.scope scope own = true) (hg : ∀ b, PG (bpX X scope b) tgE (tg.g X.K)) (hg1 : ∀ b, PG (bpX X scope b) tgE1 (tg1.g X.K)) (hg2 : ∀ b, PG (bpX X scope b) tgE2 (tg2.g X.K))
    (h : JIt X tgE iter ρ S (fun items S1 => LpP X scope (⟨tgE, iter, ifs, tg⟩ : DC) (InP X scope elt [(⟨tgE1, iter1, ifs1, tg1⟩ : DC), (⟨tgE2, iter2, ifs2, tg2⟩ : DC)]) (wipeD ρ (own.map (·.2))) (EndP P) items S1 []) B)
    (dj : ∀ i ∈ ([(⟨tgE1, iter1, ifs1, tg1⟩ : DC), (⟨tgE2, iter2, ifs2, tg2⟩ : DC)] : List DC).flatMap (·.tg.ixs), i ∉ tg.ixs := by decide) (dj1 : ∀ i ∈ ([(⟨tgE2, iter2, ifs2, tg2⟩ : DC)] : List DC).flatMap (·.tg.ixs), i ∉ tg1.ixs := by decide) (dj2 : ∀ i ∈ ([] : List DC).flatMap (·.tg.ixs), i ∉ tg2.ixs := by decide)
    (hv : ∀ i ∈ ([(⟨tgE, iter, ifs, tg⟩ : DC), (⟨tgE1, iter1, ifs1, tg1⟩ : DC), (⟨tgE2, iter2, ifs2, tg2⟩ : DC)] : List DC).flatMap (·.tg.ixs), i ∈ own.map (·.2) := by decide) (hs : ∀ x, foldedSetIterable iter X.env x = pure x := by intro _; rfl) (hs1 : ∀ env x, foldedSetIterable iter1 env x = pure x := by intro _ _; rfl) (hs2 : ∀ env x, foldedSetIterable iter2 env x = pure x := by intro _ _; rfl) :
    JE X (.ListComp elt [⟨tgE, iter, ifs, 0⟩, ⟨tgE1, iter1, ifs1, 0⟩, ⟨tgE2, iter2, ifs2, 0⟩] scope pos) ρ S P B :=
  je_lcG (c0 := (⟨tgE, iter, ifs, tg⟩ : DC)) (cs := [(⟨tgE1, iter1, ifs1, tg1⟩ : DC), (⟨tgE2, iter2, ifs2, tg2⟩ : DC)]) (.inr rfl) hc hN (blkOk_by ok) hg ⟨hg1, hs1, (fun i hi => dj1 i hi), ⟨hg2, hs2, (fun i hi => dj2 i hi), trivial⟩⟩ dj hv hs h
theorem js_lc3P {i : Nat} (hy : X.N[i]? = some y) (hyl : X.env.scope.names.lookup y = some .local) (tg : Tg) (tg1 : Tg) (tg2 : Tg) (own : List (Str × Nat)) (hc : X.calm = true) (hN : X.N.Nodup) (ok : blkC X.N X.env.scope scope own = true) (hg : ∀ b, PG (bpX X scope b) tgE (tg.g X.K)) (hg1 : ∀ b, PG (bpX X scope b) tgE1 (tg1.g X.K)) (hg2 : ∀ b, PG (bpX X scope b) tgE2 (tg2.g X.K))
    (h : JIt X tgE iter ρ S (fun items S1 => LpP X scope (⟨tgE, iter, ifs, tg⟩ : DC) (InP X scope elt [(⟨tgE1, iter1, ifs1, tg1⟩ : DC), (⟨tgE2, iter2, ifs2, tg2⟩ : DC)]) (wipeD ρ (own.map (·.2))) (EndP (fun d S => PO (.nx (ρ.set i (some d)) S))) items S1 []) B)
    (dj : ∀ i ∈ ([(⟨tgE1, iter1, ifs1, tg1⟩ : DC), (⟨tgE2, iter2, ifs2, tg2⟩ : DC)] : List DC).flatMap (·.tg.ixs), i ∉ tg.ixs := by decide) (dj1 : ∀ i ∈ ([(⟨tgE2, iter2, ifs2, tg2⟩ : DC)] : List DC).flatMap (·.tg.ixs), i ∉ tg1.ixs := by decide) (dj2 : ∀ i ∈ ([] : List DC).flatMap (·.tg.ixs), i ∉ tg2.ixs := by decide)
    (hv : ∀ i ∈ ([(⟨tgE, iter, ifs, tg⟩ : DC), (⟨tgE1, iter1, ifs1, tg1⟩ : DC), (⟨tgE2, iter2, ifs2, tg2⟩ : DC)] : List DC).flatMap (·.tg.ixs), i ∈ own.map (·.2) := by decide) (hs : ∀ x, foldedSetIterable iter X.env x = pure x := by intro _; rfl) (hs1 : ∀ env x, foldedSetIterable iter1 env x = pure x := by intro _ _; rfl) (hs2 : ∀ env x, foldedSetIterable iter2 env x = pure x := by intro _ _; rfl)
    (hsw : swapsWith (.ListComp elt [⟨tgE, iter, ifs, 0⟩, ⟨tgE1, iter1, ifs1, 0⟩, ⟨tgE2, iter2, ifs2, 0⟩] scope pos) (some (.Name y py)) spos.line X.env = pure true := by rfl) :
    JS n X (.Assign [.Name y py] (.ListComp elt [⟨tgE, iter, ifs, 0⟩, ⟨tgE1, iter1, ifs1, 0⟩, ⟨tgE2, iter2, ifs2, 0⟩] scope pos) spos) ρ S PO B :=
  js_setLcG (c0 := (⟨tgE, iter, ifs, tg⟩ : DC)) (cs := [(⟨tgE1, iter1, ifs1, tg1⟩ : DC), (⟨tgE2, iter2, ifs2, tg2⟩ : DC)]) (.inr rfl) hc hN hy hyl hsw (blkOk_by ok) hg ⟨hg1, hs1, (fun i hi => dj1 i hi), ⟨hg2, hs2, (fun i hi => dj2 i hi), trivial⟩⟩ dj hv hs h
end
end J
namespace J
open PySem PySem.Spec PyProof.Rows L2
section
variable {X : Cx} {ρ : Sl} {S : Store} {B : Bad}
theorem jo_none {k : Option Int → Store → Prop} (h : k none S) : JO X ρ B none S k := h
theorem jo_some {e : Expr} {k : Option Int → Store → Prop} (h : JE X e ρ S (fun d S1 => ∃ i, d = .int i ∧ k (some i) S1) B) : JO X ρ B (some e) S k := h
end
theorem cutD_to {xs : List D} {v : Int} (h : 0 ≤ v) : cutD xs none (some v) = xs.take v.toNat := by
  unfold cutD HT.sIx
  simp only [if_neg (Int.not_lt.mpr h)]
  rw [List.drop_zero, Nat.sub_zero, List.take_eq_take_iff]
  omega
theorem cutD_from {xs : List D} {v : Int} (h : 0 ≤ v) : cutD xs (some v) none = xs.drop v.toNat := by
  unfold cutD HT.sIx
  simp only [if_neg (Int.not_lt.mpr h)]
  rcases Nat.lt_or_ge v.toNat xs.length with h1 | h1
  · rw [Nat.min_eq_left (Nat.le_of_lt h1), List.take_of_length_le (by rw [List.length_drop]; exact Nat.le_refl _)]
  · rw [Nat.min_eq_right h1, List.drop_of_length_le (Nat.le_refl _), List.drop_of_length_le h1, List.take_nil]
theorem intsD_take (ns : List Int) (k : Nat) : (intsD ns).take k = intsD (ns.take k) := by unfold intsD; rw [List.map_take]
theorem intsD_drop (ns : List Int) (k : Nat) : (intsD ns).drop k = intsD (ns.drop k) := by unfold intsD; rw [List.map_drop]
theorem intsD_app (a b : List Int) : intsD a ++ intsD b = intsD (a ++ b) := by unfold intsD; rw [List.map_append]
theorem intsD_len (a : List Int) : (intsD a).length = a.length := by unfold intsD; rw [List.length_map]
theorem enum_mem {α : Type} {xs : List α} {p : Nat × α} (h : p ∈ (List.range xs.length).zip xs) : xs[p.1]? = some p.2 := by
  obtain ⟨i, hi⟩ := List.mem_iff_getElem?.mp h
  rw [List.getElem?_zip_eq_some] at hi
  obtain ⟨h1, h2⟩ := hi
  have : i = p.1 := by
    have h3 := List.getElem?_eq_some_iff.mp h1
    obtain ⟨h4, h5⟩ := h3
    rw [List.getElem_range] at h5; exact h5
  rw [← this]; exact h2
theorem bls_true {α : Type} (xs : List α) : (xs.map fun _ => D.bl true) = bls (xs.map fun _ => true) := by unfold bls; rw [List.map_map]; rfl
theorem all_true {α : Type} (xs : List α) : (xs.map fun _ => true).all id = true := by
  rw [List.all_map]; exact List.all_eq_true.mpr fun _ _ => rfl
def slLe : Sl → Sl → Prop
  | [], _ => True
  | none :: r', _ :: r => slLe r' r
  | some d :: r', o :: r => o = some d ∧ slLe r' r
  | _ :: _, [] => False
theorem slLe_len : ∀ {a b : Sl}, slLe a b → a.length ≤ b.length
  | [], _, _ => Nat.zero_le _
  | none :: r', _ :: r, h => Nat.succ_le_succ (slLe_len (a := r') (b := r) h)
  | some d :: r', o :: r, h => Nat.succ_le_succ (slLe_len (a := r') (b := r) h.2)
  | none :: _, [], h => h.elim
  | some _ :: _, [], h => h.elim
theorem slLe_get : ∀ {a b : Sl} {i : Nat} {d : D}, slLe a b → a[i]? = some (some d) → b[i]? = some (some d)
  | [], _, _, _, _, e => by cases e
  | none :: r', _ :: r, 0, _, _, e => by cases e
  | none :: r', _ :: r, i + 1, d, h, e => by
    rw [List.getElem?_cons_succ] at e ⊢
    exact slLe_get (a := r') (b := r) h e
  | some d :: r', o :: r, 0, _, h, e => by cases e; rw [h.1]; rfl
  | some d :: r', o :: r, i + 1, _, h, e => by
    rw [List.getElem?_cons_succ] at e ⊢
    exact slLe_get (a := r') (b := r) h.2 e
  | none :: _, [], _, _, h, _ => h.elim
  | some _ :: _, [], _, _, h, _ => h.elim
theorem jss_less {X : Cx} {n : Nat} {S : Store} {ρ : Sl} {P : Out → Prop} {B : Bad} {sts : List Stmt} (ρ' : Sl) (hl : slLe ρ' ρ) (h : JSs n X sts ρ' S P B) : JSs n X sts ρ S P B := jss_weak (slLe_len hl) (fun _ _ e => slLe_get hl e) h
theorem last_at {S : Store} {c : Cell} : (S ++ [c])[S.length]? = some c := by rw [List.getElem?_append_right (Nat.le_refl _), Nat.sub_self]; rfl
theorem last_set {S : Store} {c c' : Cell} : (S ++ [c]).set S.length c' = S ++ [c'] := by rw [List.set_append_right _ _ (Nat.le_refl _), Nat.sub_self]; rfl
theorem irow_keys (n : Nat) : irow 0 n = intsD (keysI n) := by
  unfold irow intsD keysI
  rw [List.map_map]
  exact List.map_congr_left fun i _ => by simp
end J
/-! data through the store; repr; deep equality and membership -/
namespace J
open PySem PySem.Spec PyProof.Rows L2
mutual
/-- what a thing tells, the store's things written out -/
inductive Vl (S : Store) : D → D → Prop
  | pure {d : D} : d.pure = true → Vl S d d
  | ptr {k : Nat} {ds ts : List D} : S[k]? = some (.lst ds) → VlA S ds ts → Vl S (.ptr k) (.lst ts)
  | lst {ds ts : List D} : VlA S ds ts → Vl S (.lst ds) (.lst ts)
  | tup {ds ts : List D} : VlA S ds ts → Vl S (.tup ds) (.tup ts)
inductive VlA (S : Store) : List D → List D → Prop
  | nil : VlA S [] []
  | cons {d t : D} {ds ts : List D} : Vl S d t → VlA S ds ts → VlA S (d :: ds) (t :: ts)
end
mutual
theorem Vl.dp {K : PySem.W.Frag} {u : Mu} {H : Hp} {S : Store} (hS : StoR K u H S) : ∀ {d t : D}, Vl S d t → ∀ {v : V}, Rp K u H v d → Dp K H v t.py ∧ t.pure = true
  | _, _, .pure p, _, r => ⟨dp_of r p, p⟩
  | _, _, .ptr e h, _, r => by
    obtain ⟨a, vs, rfl, _, h1, h2⟩ := cell_lst hS r e
    obtain ⟨q1, q2⟩ := VlA.dp hS h h2
    exact ⟨.lst (.inl (.inl h1)) q1, q2⟩
  | _, _, .lst h, _, r => by
    cases r with
    | lst h1 h2 =>
      obtain ⟨q1, q2⟩ := VlA.dp hS h h2
      exact ⟨.lst h1.sq q1, q2⟩
  | _, _, .tup h, _, r => by
    cases r with
    | tup h1 h2 =>
      obtain ⟨q1, q2⟩ := VlA.dp hS h h2
      exact ⟨.tup h1.sq q1, q2⟩
theorem VlA.dp {K : PySem.W.Frag} {u : Mu} {H : Hp} {S : Store} (hS : StoR K u H S) : ∀ {ds ts : List D}, VlA S ds ts → ∀ {vs : List V}, RpA K u H vs ds → DpAll K H vs (pyA ts) ∧ pureA ts = true
  | _, _, .nil, _, r => by cases r; exact ⟨.nil, rfl⟩
  | _, _, .cons h t, _, r => by
    cases r with
    | cons r1 r2 =>
      obtain ⟨q1, q2⟩ := Vl.dp hS h r1
      obtain ⟨q3, q4⟩ := VlA.dp hS t r2
      exact ⟨.cons q1 q3, by simp only [pureA, q2, q4, Bool.and_self]⟩
end
theorem pureA_mem : ∀ {ds : List D}, pureA ds = true → ∀ d ∈ ds, d.pure = true
  | d :: ds, h, x, hx => by
    simp only [pureA, Bool.and_eq_true] at h
    rcases List.mem_cons.mp hx with rfl | hx
    · exact h.1
    · exact pureA_mem h.2 x hx
theorem pureA_of : ∀ {ds : List D}, (∀ d ∈ ds, d.pure = true) → pureA ds = true
  | [], _ => rfl
  | d :: ds, h => by simp only [pureA, h d (List.mem_cons_self ..), pureA_of fun x hx => h x (List.mem_cons_of_mem _ hx), Bool.and_self]
theorem VlA.pure {S : Store} : ∀ {ds : List D}, (∀ d ∈ ds, d.pure = true) → VlA S ds ds
  | [], _ => .nil
  | d :: ds, h => .cons (.pure (h d (List.mem_cons_self ..))) (VlA.pure fun x hx => h x (List.mem_cons_of_mem _ hx))
theorem VlA.map {α : Type} {S : Store} {f g : α → D} : ∀ {xs : List α}, (∀ x ∈ xs, Vl S (f x) (g x)) → VlA S (xs.map f) (xs.map g)
  | [], _ => .nil
  | d :: ds, h => .cons (h d (List.mem_cons_self ..)) (VlA.map fun x hx => h x (List.mem_cons_of_mem _ hx))
theorem VlA.app {S : Store} : ∀ {a b c d : List D}, VlA S a b → VlA S c d → VlA S (a ++ c) (b ++ d)
  | _, _, _, _, .nil, h => h
  | _, _, _, _, .cons q r, h => .cons q (r.app h)
mutual
theorem Vl.ext {S : Store} {E : List Cell} : ∀ {d t : D}, Vl S d t → Vl (S ++ E) d t
  | _, _, .pure h => .pure h
  | _, _, .ptr e h => .ptr (by rw [List.getElem?_append_left (List.getElem?_eq_some_iff.mp e).1]; exact e) (VlA.ext h)
  | _, _, .lst h => .lst (VlA.ext h)
  | _, _, .tup h => .tup (VlA.ext h)
theorem VlA.ext {S : Store} {E : List Cell} : ∀ {d t : List D}, VlA S d t → VlA (S ++ E) d t
  | _, _, .nil => .nil
  | _, _, .cons h t => .cons (Vl.ext h) (VlA.ext t)
end
/-! repr -/
/-- how long a thing's text is at most -/
structure Wd (n : Nat) (d : D) : Prop where
  sh : d.py.showable = true
  le : d.py.shown.length ≤ n
theorem Wd.up {n m : Nat} {d : D} (h : Wd n d) (hm : n ≤ m) : Wd m d := ⟨h.sh, Nat.le_trans h.le hm⟩
theorem wd_int {i : Int} (k : Nat) (h : i.natAbs < 10 ^ k) (h0 : 0 < k := by decide) (hk : k ≤ 400 := by decide) : Wd (k + 1) (.int i) := by
  refine ⟨?_, ?_⟩
  · show decide (i.natAbs.log2 < 1920) = true
    refine decide_eq_true ?_
    by_cases z : i.natAbs = 0
    · rw [z]; decide
    · refine (Nat.log2_lt z).mpr (Nat.lt_of_lt_of_le h (Nat.le_trans (Nat.pow_le_pow_right (by decide) hk) ?_))
      decide +kernel
  · show (Str.ofString (toString i)).length ≤ _
    rw [PySem.ofString_length]
    exact int_text_length_le10 h0 h
theorem wd_non : Wd 4 .non := ⟨rfl, by decide⟩
theorem wd_bl (b : Bool) : Wd 5 (.bl b) := ⟨rfl, by cases b <;> decide⟩
theorem wdA {n : Nat} : ∀ {ds : List D}, (∀ d ∈ ds, Wd n d) → PyData.showableAll (pyA ds) = true ∧ ((PyData.shownAll (pyA ds)).map (·.length)).sum ≤ ds.length * n ∧ (PyData.shownAll (pyA ds)).length = ds.length
  | [], _ => ⟨rfl, Nat.zero_le _, rfl⟩
  | d :: ds, h => by
    obtain ⟨h1, h2, h3⟩ := wdA (n := n) (ds := ds) fun x hx => h x (List.mem_cons_of_mem _ hx)
    have h0 := h d (List.mem_cons_self ..)
    have hl := h0.le
    refine ⟨by simp only [pyA, PyData.showableAll, h0.sh, h1, Bool.and_self], ?_, by simp only [pyA, PyData.shownAll, List.length_cons, h3]⟩
    simp only [pyA, PyData.shownAll, List.map_cons, List.sum_cons, List.length_cons, Nat.add_mul, Nat.one_mul]
    omega
theorem wd_lst {n : Nat} {ds : List D} (h : ∀ d ∈ ds, Wd n d) : Wd (ds.length * (n + 2) + 3) (.lst ds) := by
  obtain ⟨h1, h2, h3⟩ := wdA h
  refine ⟨by simp only [D.py, PyData.showable, h1], ?_⟩
  show (listText (PyData.shownAll (pyA ds))).length ≤ _
  refine Nat.le_trans (listText_len_le _) ?_
  rw [h3, Nat.mul_add]
  omega
theorem wd_tup {n : Nat} {ds : List D} (h : ∀ d ∈ ds, Wd n d) : Wd (ds.length * (n + 2) + 3) (.tup ds) := by
  obtain ⟨h1, h2, h3⟩ := wdA h
  refine ⟨by simp only [D.py, PyData.showable, h1], ?_⟩
  show (tupleText (PyData.shownAll (pyA ds))).length ≤ _
  refine Nat.le_trans (tupleText_len_le _) ?_
  rw [h3, Nat.mul_add]
  omega
def rp (d : D) : Str := d.py.shown
structure Rep (t : D) : Prop where
  fits : Fits 50 t
  wd : Wd sizeLine t
section
variable {X : Cx}
theorem cr_repr (hgd : X.A.guards = some []) (hu : X.A.units + 64 < cLine) : CallR X (.builtin "repr") (fun vs H Q => ∃ v t, vs = [v] ∧ Dp X.K H v t.py ∧ Rep t ∧ Q (.str (rp t)) H) := by
  intro pins s σ H xs us Q I r h
  obtain ⟨v, t, rfl, hd, hr, q⟩ := h
  obtain ⟨u, rfl, rv⟩ := vals1 r
  obtain ⟨as, rd⟩ := Dp.reads I t.py v u hd rv
  have hs := hr.wd.sh
  have hz := hr.wd.le
  have hdp := hr.fits.2.2
  have hnd := PyData.hasDict_of_canLay _ hr.fits.2.1
  unfold rp at q
  have fin : ∀ h' tk, (∀ b o, s.heap.get? b = some o → h'.get? b = some o) → ∀ u', EP X pins σ Q (.str t.py.shown u') { s with heap := h', toks := tk } := fun h' tk hk u' => ⟨.str _, H, I.kept hk, ⟨_, rfl⟩, q⟩
  generalize t.py = d at rd hs hz hdp hnd fin
  cases rd with
  | none => exact PySem.P.repr_of_none (fin s.heap _ (fun _ _ e => e) _)
  | bool b => exact PySem.P.repr_of_bool (fin s.heap _ (fun _ _ e => e) _)
  | int i tk => exact PySem.P.repr_of_int (by simpa [PyData.showable] using hs) (fin s.heap _ (fun _ _ e => e) _)
  | str x tk => exact PySem.P.repr_of_str (fin s.heap _ (fun _ _ e => e) _) (by simpa only [PyData.shown] using hz)
  | list h1 h2 h3 h4 => exact repr_of_reads' (.list h1 h2 h3 h4) hs (PyData.noDict_hsm hnd) hgd (by omega) (fun _ _ e => e) (fun h' u' tk hk => fin h' tk hk u') hz
  | tuple h1 h2 h3 h4 => exact repr_of_reads' (.tuple h1 h2 h3 h4) hs (PyData.noDict_hsm hnd) hgd (by omega) (fun _ _ e => e) (fun h' u' tk hk => fin h' tk hk u') hz
  | dict h1 h2 h3 h4 h5 => cases hnd
variable {ρ : Sl} {S : Store} {P : D → Store → Prop} {PT : Bool → Store → Prop} {B : Bad} {a b e : Expr} {es : List Expr} {p pos : Pos}
theorem je_repr (hgd : X.A.guards = some []) (hu : X.A.units + 64 < cLine) (hg : Gl X "repr") (hm : X.mg "repr" = none) (h : JA X (e :: es) ρ S (fun ds S1 => ∃ d t, ds = [d] ∧ Vl S1 d t ∧ Rep t ∧ P (.str (rp t)) S1) B) (he : Plain1 X e es := by rfl) (hpl : (backTo pos (starEach es X.env)).any (·.1) = false := by rfl) : JE X (.Call (.Name "repr" p) (e :: es) [] pos) ρ S P B :=
  je_callB (cr_repr hgd hu) hg hm bb_repr (h.mono fun ds S1 ⟨d, t, e1, h1, h2, h3⟩ u H vs Q hS r hQ => by
    subst e1
    obtain ⟨v, rfl, rv⟩ := rpA1 r
    exact ⟨v, t, rfl, (h1.dp hS rv).1, h2, hQ _ H (.here hS (.str _) h3)⟩) (he := he) (hpl := hpl)
/-! == and in, through the store -/
def EqV (S : Store) (d1 d2 : D) (k : Bool → Prop) : Prop := ∃ t1 t2 n, Vl S d1 t1 ∧ Vl S d2 t2 ∧ Fits n t1 ∧ Fits n t2 ∧ n ≤ 64 ∧ k (eqB t1 t2)
theorem od_eqV {d1 d2 : D} (h : EqV S d1 d2 fun t => P (.bl t) S) : OpD X.K (rEqD X.K) d1 d2 S P := fun u H v1 v2 Q hS r1 r2 hQ => by
  obtain ⟨t1, t2, n, h1, h2, f1, f2, hn, q⟩ := h
  exact ⟨_, _, (h1.dp hS r1).1, (h2.dp hS r2).1, (f1.ok hn).2, (f2.ok hn).2, hQ _ H (.here hS (.bl _) q)⟩
theorem od_neV {d1 d2 : D} (h : EqV S d1 d2 fun t => P (.bl (!t)) S) : OpD X.K (rNeD X.K) d1 d2 S P := fun u H v1 v2 Q hS r1 r2 hQ => by
  obtain ⟨t1, t2, n, h1, h2, f1, f2, hn, q⟩ := h
  exact ⟨_, _, (h1.dp hS r1).1, (h2.dp hS r2).1, (f1.ok hn).2, (f2.ok hn).2, hQ _ H (.here hS (.bl _) q)⟩
theorem EqV.mono {d1 d2 : D} {k k' : Bool → Prop} (h : EqV S d1 d2 k) (hk : ∀ t, k t → k' t) : EqV S d1 d2 k' := by
  obtain ⟨t1, t2, n, h1, h2, f1, f2, hn, q⟩ := h
  exact ⟨t1, t2, n, h1, h2, f1, f2, hn, hk _ q⟩
theorem je_eqV (hu : X.A.units + 64 < cLine) (h : JE X a ρ S (fun d1 S1 => JE X b ρ S1 (fun d2 S2 => EqV S2 d1 d2 fun t => P (.bl t) S2) B) B) : JE X (.Compare a [.Eq] [b] pos) ρ S P B := je_cmp (op_eqD hu) (nomark _) (h.mono fun _ _ q => q.mono fun _ _ q => od_eqV q)
theorem je_neV (hu : X.A.units + 64 < cLine) (h : JE X a ρ S (fun d1 S1 => JE X b ρ S1 (fun d2 S2 => EqV S2 d1 d2 fun t => P (.bl (!t)) S2) B) B) : JE X (.Compare a [.NotEq] [b] pos) ρ S P B := je_cmp (op_neD hu) (nomark _) (h.mono fun _ _ q => q.mono fun _ _ q => od_neV q)
theorem jt_eqV (hu : X.A.units + 64 < cLine) (h : JE X a ρ S (fun d1 S1 => JE X b ρ S1 (fun d2 S2 => EqV S2 d1 d2 fun t => PT t S2) B) B) : JT X (.Compare a [.Eq] [b] pos) ρ S PT B := jt_cmp (op_eqD hu) (nomark _) (h.mono fun _ _ q => q.mono fun _ _ q => od_eqV (q.mono fun t z => ⟨_, rfl, z⟩))
theorem jt_neV (hu : X.A.units + 64 < cLine) (h : JE X a ρ S (fun d1 S1 => JE X b ρ S1 (fun d2 S2 => EqV S2 d1 d2 fun t => PT (!t) S2) B) B) : JT X (.Compare a [.NotEq] [b] pos) ρ S PT B := jt_cmp (op_neD hu) (nomark _) (h.mono fun _ _ q => q.mono fun _ _ q => od_neV (q.mono fun t z => ⟨_, rfl, z⟩))
def InV (S : Store) (d1 d2 : D) (k : Bool → Prop) : Prop := ∃ t ts n, Vl S d1 t ∧ Vl S d2 (.lst ts) ∧ Fits n t ∧ Fits n (.lst ts) ∧ n ≤ 64 ∧ k (ts.any fun z => eqB z t)
theorem any_py (t : PyData) : ∀ ts : List D, ((pyA ts).any fun z => PyData.eqv z t) = ts.any fun z => PyData.eqv z.py t
  | [] => rfl
  | d :: ds => by simp only [pyA, List.any_cons, any_py t ds]
theorem od_inV {d1 d2 : D} (h : InV S d1 d2 fun t => P (.bl t) S) : OpD X.K (rInD X.K) d1 d2 S P := fun u H v1 v2 Q hS r1 r2 hQ => by
  obtain ⟨t, ts, n, h1, h2, f1, f2, hn, q⟩ := h
  exact ⟨_, _, (h1.dp hS r1).1, (h2.dp hS r2).1, (f1.ok hn).2, (f2.ok hn).2, hQ _ H (.here hS (.bl _) (by rw [any_py]; exact q))⟩
theorem od_ninV {d1 d2 : D} (h : InV S d1 d2 fun t => P (.bl (!t)) S) : OpD X.K (rNotInD X.K) d1 d2 S P := fun u H v1 v2 Q hS r1 r2 hQ => by
  obtain ⟨t, ts, n, h1, h2, f1, f2, hn, q⟩ := h
  exact ⟨_, _, (h1.dp hS r1).1, (h2.dp hS r2).1, (f1.ok hn).2, (f2.ok hn).2, hQ _ H (.here hS (.bl _) (by rw [any_py]; exact q))⟩
theorem InV.mono {d1 d2 : D} {k k' : Bool → Prop} (h : InV S d1 d2 k) (hk : ∀ t, k t → k' t) : InV S d1 d2 k' := by
  obtain ⟨t1, t2, n, h1, h2, f1, f2, hn, q⟩ := h
  exact ⟨t1, t2, n, h1, h2, f1, f2, hn, hk _ q⟩
theorem je_inV (hu : X.A.units + 65 < cLine) (hm : behindInMarks .In b = false) (h : JE X a ρ S (fun d1 S1 => JE X b ρ S1 (fun d2 S2 => InV S2 d1 d2 fun t => P (.bl t) S2) B) B) : JE X (.Compare a [.In] [b] pos) ρ S P B := je_cmp (op_inD hu) hm (h.mono fun _ _ q => q.mono fun _ _ q => od_inV q)
theorem je_ninV (hu : X.A.units + 65 < cLine) (hm : behindInMarks .NotIn b = false) (h : JE X a ρ S (fun d1 S1 => JE X b ρ S1 (fun d2 S2 => InV S2 d1 d2 fun t => P (.bl (!t)) S2) B) B) : JE X (.Compare a [.NotIn] [b] pos) ρ S P B := je_cmp (op_notInD hu) hm (h.mono fun _ _ q => q.mono fun _ _ q => od_ninV q)
theorem jt_inV (hu : X.A.units + 65 < cLine) (hm : behindInMarks .In b = false) (h : JE X a ρ S (fun d1 S1 => JE X b ρ S1 (fun d2 S2 => InV S2 d1 d2 fun t => PT t S2) B) B) : JT X (.Compare a [.In] [b] pos) ρ S PT B := jt_cmp (op_inD hu) hm (h.mono fun _ _ q => q.mono fun _ _ q => od_inV (q.mono fun t z => ⟨_, rfl, z⟩))
theorem jt_ninV (hu : X.A.units + 65 < cLine) (hm : behindInMarks .NotIn b = false) (h : JE X a ρ S (fun d1 S1 => JE X b ρ S1 (fun d2 S2 => InV S2 d1 d2 fun t => PT (!t) S2) B) B) : JT X (.Compare a [.NotIn] [b] pos) ρ S PT B := jt_cmp (op_notInD hu) hm (h.mono fun _ _ q => q.mono fun _ _ q => od_ninV (q.mono fun t z => ⟨_, rfl, z⟩))
end
/-! equality of data -/
mutual
theorem eqB_self : ∀ {d : D}, d.pure = true → PyData.eqv d.py d.py = true
  | .non, _ => rfl
  | .bl b, _ => by cases b <;> rfl
  | .int i, _ => by simp [D.py, PyData.eqv]
  | .str x, _ => by simp [D.py, PyData.eqv]
  | .tup ds, h => by simpa [D.py, PyData.eqv] using eqBA_self (ds := ds) h
  | .lst ds, h => by simpa [D.py, PyData.eqv] using eqBA_self (ds := ds) h
  | .ptr _, h => by simp [D.pure] at h
  | .val _, h => by simp [D.pure] at h
theorem eqBA_self : ∀ {ds : List D}, pureA ds = true → PyData.eqvAll (pyA ds) (pyA ds) = true
  | [], _ => rfl
  | d :: ds, h => by
    simp only [pureA, Bool.and_eq_true] at h
    simp only [pyA, PyData.eqvAll, eqB_self h.1, eqBA_self h.2, Bool.and_self]
end
end J
/-! calls by names; calls of a def that a slot holds; new lists of the store -/
namespace J
open PySem PySem.Spec PyProof.Rows L2
/-- a def called by names: ks the names as written, ix the places of the parameters among them -/
structure KF (P : Program) (w : World) (K : PySem.W.Frag) (mg : Str → Option Value) (base : Heap) (k : Nat) (x : Str) (ps ks : List Str) (ix : List Nat) (sp : DSpec) : Prop where
  ex : ∃ f fd, FnG P w K mg base k f fd ps (spD K ps.length sp) ∧ mg x = some (.ref f) ∧ PySem.W.keepIn K (.ref f) = true ∧ KwB K fd ps ks ix
theorem kf_of {P : Program} {w : World} {K : PySem.W.Frag} {mg : Str → Option Value} {base : Heap} {k : Nat} {x : Str} {ps ks : List Str} {ix : List Nat} {sp : DSpec} {st : Stmt} (G : GF P w K mg base k x ps sp) (dd : Df K mg x st)
    (h : ∀ (kV doc pm : Value) (an : Option Addr) (cdv ct : Value) (ws : List Value), ws.length = ks.length → bindArgs (PySem.W.fnOf x x (defArgs st) (defBody st) (defScope st) .none kV doc pm an cdv ct) ⟨[], ks.zip ws⟩ = pure (ps.zip (ix.map fun i => ws.getD i .none))) : KF P w K mg base k x ps ks ix sp := by
  obtain ⟨f, fd, F, hm, hk, hb, oc, od, osl, lk⟩ := G.ex
  obtain ⟨f', fd', F', hm'⟩ := dd.ex
  rw [hm] at hm'; cases hm'
  obtain ⟨oc', od', kV, doc, pm, an, cdv, ct, osl', e, lk', hcd⟩ := F'.ex
  rw [lk] at lk'; cases lk'
  subst e
  exact ⟨f, _, F, hm, hk, fun s ws _ hl => .of_eq (h kV doc pm an cdv ct ws hl)⟩
/-- a def as a value: the address f, its promise -/
structure VF (P : Program) (w : World) (K : PySem.W.Frag) (mg : Str → Option Value) (base : Heap) (k : Nat) (f : Addr) (ps : List Str) (sp : DSpec) : Prop where
  ex : ∃ fd, FnG P w K mg base k f fd ps (spD K ps.length sp) ∧ PySem.W.keepIn K (.ref f) = true ∧ Binds K fd ps []
theorem GF.vf {P : Program} {w : World} {K : PySem.W.Frag} {mg : Str → Option Value} {base : Heap} {k : Nat} {x : Str} {ps : List Str} {sp : DSpec} (G : GF P w K mg base k x ps sp) : ∃ f, mg x = some (.ref f) ∧ VF P w K mg base k f ps sp := by
  obtain ⟨f, fd, F, hm, hk, hb, _⟩ := G.ex
  exact ⟨f, hm, fd, F, hk, hb⟩
section
variable {X : Cx} {a b c e : Expr} {es : List Expr} {ρ : Sl} {S : Store} {P P' : D → Store → Prop} {PL : List D → Store → Prop} {PT : Bool → Store → Prop} {B : Bad} {pos p kpos : Pos} {x : Str} {k : Nat} {ps ks : List Str} {ix : List Nat} {sp : DSpec} {kws : List Keyword} {nm : Option Str}
def JK (X : Cx) (kws : List Keyword) (ρ : Sl) (S : Store) (P : List D → Store → Prop) (B : Bad) : Prop :=
  ∀ u σ H Q, Wish X B u H → StoR X.K u H S → EnvV X.K u H σ ρ → (∀ vs H', GoodA X.K P u H vs H' → Q vs H') → wKw X kws σ H Q
theorem pk_w : PK X kws (wKw X kws) := ⟨fun pos pins s σ H Q I h => h pos pins s I⟩
theorem wKw_of {t : TA} {σ H Q} (h : PK X kws t) (q : t σ H Q) : wKw X kws σ H Q := fun pos pins s I => h.run pos pins s σ H Q I q
theorem jk_nil (h : PL [] S) : JK X [] ρ S PL B := fun u σ H Q _ hS _ hQ => wKw_of pk_nil (hQ [] H ⟨u, [], S, .refl _ _ _, hS, .nil, h⟩)
theorem jk_cons (h : JE X e ρ S (fun d S1 => JK X kws ρ S1 (fun ds S2 => PL (d :: ds) S2) B) B) : JK X (⟨nm, e, kpos⟩ :: kws) ρ S PL B := fun u σ H Q hW hS hE hQ =>
  wKw_of (pk_cons pe_w pk_w) (h u σ H _ hW hS hE fun v H1 ⟨u1, d, S1, A1, hS1, r1, h1⟩ => h1 u1 σ H1 _ (hW.after A1) hS1 (hE.adv A1) fun vs H2 ⟨u2, ds, S2, A2, hS2, r2, h2⟩ =>
    hQ (v :: vs) H2 ⟨u2, d :: ds, S2, A1.tr A2, hS2, .cons (r1.go A2) r2, h2⟩)
theorem RpA.pick {K : PySem.W.Frag} {u : Mu} {H : Hp} {vs : List V} {ds : List D} (r : RpA K u H vs ds) : ∀ ix : List Nat, (∀ i ∈ ix, i < ds.length) → RpA K u H (ix.map fun i => vs.getD i .non) (ix.map fun i => ds.getD i .non)
  | [], _ => .nil
  | i :: ix, h => by
    refine .cons ?_ (RpA.pick r ix fun j hj => h j (List.mem_cons_of_mem _ hj))
    have hi := h i List.mem_cons_self
    obtain ⟨w, h1, h2⟩ := RpA.of r (List.getElem?_eq_getElem hi)
    show Rp K u H (vs.getD i .non) (ds.getD i .non)
    rw [List.getD_eq_getElem?_getD, List.getD_eq_getElem?_getD, h1, List.getElem?_eq_getElem hi]
    exact h2
theorem je_callK (G : KF X.prog X.w X.K X.mg X.base k x ps ks ix sp) (hr : Room k X.A) (hgd : X.A.guards = some []) (hg : Gl X x) (h : JK X kws ρ S (fun ds S1 => ds.length = ks.length ∧ (∀ i ∈ ix, i < ks.length) ∧ ix.length = ps.length ∧ sp (ix.map fun i => ds.getD i .non) S1 P B) B)
    (hall : (backToKw pos (keywordEach kws X.env)).all (·.1.isSome) = true := by rfl) (hks : (backToKw pos (keywordEach kws X.env)).filterMap (·.1) = ks := by rfl) (hpl : ((backTo pos (starEach [] X.env)).any (·.1) || (backToKw pos (keywordEach kws X.env)).any (·.1.isNone)) = false := by rfl)
    (hdb : (x == ("__debug__" : Str)) = false := by decide) : JE X (.Call (.Name x p) [] kws pos) ρ S P B := fun u σ H Q hW hS hE hQ => by
  obtain ⟨f, fd, F, hm, hk, hb⟩ := G.ex
  refine wE_of (pe_callKG F hr hgd hg hm hk hb hW.pass hall hks hpl hdb) ?_
  refine h u σ H _ hW hS hE fun zs H1 ⟨u1, ds, S1, A1, hS1, r1, e1, e2, e3, h1⟩ => ?_
  have hz : zs.length = ks.length := r1.length.trans e1
  refine ⟨hz, fun i hi => by rw [hz]; exact e2 i hi, u1, _, S1, P, B, hS1, r1.pick ix (fun i hi => by rw [e1]; exact e2 i hi), by rw [List.length_map]; exact e3, h1, fun v H' g => hQ v H' (g.after A1), fun cls dx H' g => g.after A1⟩
theorem pe_callVG {i : Nat} {f : Addr} {fd : FuncData} {sp : Sp} {E : XK} {t : TA} (F : FnG X.prog X.w X.K X.mg X.base k f fd ps sp) (hr : Room k X.A) (hgd : X.A.guards = some []) (hN : X.N[i]? = some x) (hv : Vis X.env.scope x) (hk : PySem.W.keepIn X.K (.ref f) = true) (hb : Binds X.K fd ps []) (hx : Passes (L2.CX X.prog X.w) X E)
    (ha : PA X (e :: es) t) (hdb : (x == ("__debug__" : Str)) = false) (hcd : (x == ("__classdict__" : Str)) = false) (he : starEach (e :: es) X.env = (false, eval e X.env) :: starEach es X.env) (hpl : (backTo pos (starEach es X.env)).any (·.1) = false) :
    PE X (.Call (.Name x p) (e :: es) [] pos) (fun σ H Q => σ[i]? = some (some (.ref f)) ∧ t σ H fun vs H1 => sp vs H1 Q E) := ⟨fun pins s σ H Q I h => by
  obtain ⟨hs, ht⟩ := h
  refine wpAny_Call_Name_kw (thn ((pe_var (pos := p) hN hv hdb hcd).run pins s σ H (fun v H1 => v = .ref f ∧ H1 = H) I ⟨.ref f, hs, rfl, rfl⟩) fun u s1 ⟨v, H1, I1, r1, q1⟩ => ?_)
  obtain ⟨rfl, rfl⟩ := q1
  cases r1
  refine PySem.W.callWith_K (h₀ := X.base) I.ok.mod.kin hk (thn (ha.run pos pins s1 σ _ _ I1 ht) fun us s2 ⟨vs, H2, I2, r, q⟩ => ⟨I2.kIn, ?_⟩) he hpl
  refine wpAny_call (runG F hr hgd hx (fun hl => ?_) I2 r q)
  have hb1 := hb s2 us I2.kIn (by rw [List.append_nil]; exact hl)
  rw [List.append_nil] at hb1
  exact hb1⟩
/-- a call of a def that a slot holds -/
theorem je_callV {i : Nat} {f : Addr} (V : VF X.prog X.w X.K X.mg X.base k f ps sp) (hr : Room k X.A) (hgd : X.A.guards = some []) (hN : X.N[i]? = some x) (hv : Vis X.env.scope x) (hd : ρ[i]? = some (some (.val (.ref f)))) (h : JA X (e :: es) ρ S (fun ds S1 => ds.length = ps.length ∧ sp ds S1 P B) B)
    (hdb : (x == ("__debug__" : Str)) = false := by decide) (hcd : (x == ("__classdict__" : Str)) = false := by decide) (he : starEach (e :: es) X.env = (false, eval e X.env) :: starEach es X.env := by rfl) (hpl : (backTo pos (starEach es X.env)).any (·.1) = false := by rfl) : JE X (.Call (.Name x p) (e :: es) [] pos) ρ S P B := fun u σ H Q hW hS hE hQ => by
  obtain ⟨fd, F, hk, hb⟩ := V.ex
  refine wE_of (pe_callVG F hr hgd hN hv hk hb hW.pass pa_w hdb hcd he hpl) ?_
  obtain ⟨v, hv', rv⟩ := hE.get i _ hd
  cases rv
  refine ⟨hv', h u σ H _ hW hS hE fun vs H1 hh => ?_⟩
  obtain ⟨u1, ds, S1, A1, hS1, r1, hl, h1⟩ := hh
  exact ⟨u1, ds, S1, P, B, hS1, r1, hl, h1, fun v H' g => hQ v H' (g.after A1), fun cls dx H' g => g.after A1⟩
/-- a def's name as a value -/
theorem je_fn {w : Addr} (hg : Gl X x) (hm : X.mg x = some (.ref w)) (h : P (.val (.ref w)) S) (hd : (x == ("__debug__" : Str)) = false := by decide) : JE X (.Name x pos) ρ S P B := je_glob (v := .ref w) hg hm rfl h hd
/-! new lists, frozen or of the store -/
def New (own : Bool) (xs : List D) (S : Store) (P : D → Store → Prop) : Prop := match own with
  | true => P (.ptr S.length) (S ++ [.lst xs])
  | false => P (.lst xs) S
theorem good_new {K : PySem.W.Frag} {u : Mu} {H : Hp} {q : Addr} {vs : List V} {ds : List D} {own : Bool} (hS : StoR K u H S) (hp : H q = none) (r : RpA K u H vs ds) (h : New own ds S P) : Good K P u H (.ref q) (upd H q (.lst vs)) := by
  cases own with
  | true => exact good_ptr hS hp r h
  | false => exact good_lst hS hp r h
theorem je_lstN (own : Bool) (h : JA X es ρ S (fun ds S1 => ds.length ≤ sizeLine ∧ New own ds S1 P) B) : JE X (.List es pos) ρ S P B :=
  je_of (pe_lst pa_w) fun u σ H Q hW hS hE hQ => h u σ H _ hW hS hE fun vs H1 ⟨u1, ds, S1, A1, hS1, r1, hl, h1⟩ => ⟨by rw [r1.length]; exact hl, fun q hq => hQ _ _ ((good_new hS1 hq r1 h1).after A1)⟩
def catW (own : Bool) (S : Store) (d1 d2 : D) (P : D → Store → Prop) : Prop := ∃ xs ys, res S d1 = .lst xs ∧ res S d2 = .lst ys ∧ xs.length + ys.length ≤ sizeLine ∧ New own (xs ++ ys) S P
theorem od_cat {own : Bool} {d1 d2 : D} (h : catW own S d1 d2 P) : OpD X.K rCat d1 d2 S P := fun u H v1 v2 Q hS r1 r2 hQ => by
  obtain ⟨xs, ys, e1, e2, hl, h⟩ := h
  obtain ⟨a1, vs1, rfl, h1, q1⟩ := res_lst hS r1 e1
  obtain ⟨a2, vs2, rfl, h2, q2⟩ := res_lst hS r2 e2
  refine ⟨a1, a2, vs1, vs2, rfl, rfl, h1, h2, by rw [q1.length, q2.length]; exact hl, fun q hq => hQ _ _ (good_new hS hq (q1.append q2) h)⟩
theorem je_catN (own : Bool) (h : JE X a ρ S (fun d1 S1 => JE X b ρ S1 (fun d2 S2 => catW own S2 d1 d2 P) B) B) : JE X (.BinOp a .Add b pos) ρ S P B := je_op op_cat (h.mono fun _ _ q => q.mono fun _ _ q => od_cat q)
theorem je_listN (own : Bool) (hg : Gl X "list") (hm : X.mg "list" = none) (h : JA X (e :: es) ρ S (fun ds S1 => ∃ d xs, ds = [d] ∧ seqOf S1 d = some xs ∧ New own xs S1 P) B) (he : Plain1 X e es := by rfl) (hpl : (backTo pos (starEach es X.env)).any (·.1) = false := by rfl) : JE X (.Call (.Name "list" p) (e :: es) [] pos) ρ S P B := by
  cases own with
  | true => exact je_listP hg hm h he hpl
  | false => exact je_list hg hm h he hpl
def EndN (own : Bool) (P : D → Store → Prop) : Store → List D → Prop := fun S acc => New own acc S P
theorem je_lc1N {scope : Scope} {elt tgE iter : Expr} {ifs : List Expr} (own : Bool) (tg : Tg) (ow : List (Str × Nat)) (hc : X.calm = true) (hN : X.N.Nodup) (ok : blkC X.N X.env.scope scope ow = true) (hg : ∀ b, PG (bpX X scope b) tgE (tg.g X.K))
    (h : JIt X tgE iter ρ S (fun items S1 => LpP X scope (⟨tgE, iter, ifs, tg⟩ : DC) (InP X scope elt []) (wipeD ρ (ow.map (·.2))) (EndN own P) items S1 []) B)
    (dj : ∀ i ∈ ([] : List DC).flatMap (·.tg.ixs), i ∉ tg.ixs := by decide)
    (hv : ∀ i ∈ ([(⟨tgE, iter, ifs, tg⟩ : DC)] : List DC).flatMap (·.tg.ixs), i ∈ ow.map (·.2) := by decide) (hs : ∀ x, foldedSetIterable iter X.env x = pure x := by intro _; rfl)  :
    JE X (.ListComp elt [⟨tgE, iter, ifs, 0⟩] scope pos) ρ S P B := by
  cases own with
  | true => exact je_lc1P tg ow hc hN ok hg h dj hv hs
  | false => exact je_lc1 tg ow hc hN ok hg h dj hv hs
end
end J
/-! tuples: starred parts, t + u -/
namespace J
open PySem PySem.Spec PyProof.Rows L2
section
variable {X : Cx} {a b c e : Expr} {es : List Expr} {ρ : Sl} {S : Store} {P P' : D → Store → Prop} {PL : List D → Store → Prop} {B : Bad} {pos p : Pos}
theorem ja_star (h : JE X e ρ S (fun d S1 => ∃ xs, seqOf S1 d = some xs ∧ JA X es ρ S1 (fun ds S2 => PL (xs ++ ds) S2) B) B) (hs : starEach (.Starred e p :: es) X.env = (true, eval e X.env) :: starEach es X.env := by rfl) : JA X (.Starred e p :: es) ρ S PL B :=
  ja_of (StX.pa_star pe_w pa_w hs) fun u σ H Q hW hS hE hQ => h u σ H _ hW hS hE fun v H1 ⟨u1, d, S1, A1, hS1, r1, xs, e1, h1⟩ => by
    obtain ⟨q, vs, rfl, hq, rq⟩ := seq_of hS1 r1 e1
    refine ⟨q, vs, rfl, hq.symm, h1 u1 σ H1 _ (hW.after A1) hS1 (hE.adv A1) fun ws H2 ⟨u2, ds, S2, A2, hS2, r2, h2⟩ => ?_⟩
    exact hQ _ H2 ⟨u2, xs ++ ds, S2, A1.tr A2, hS2, (rq.go A2).append r2, h2⟩
def catTW (S : Store) (d1 d2 : D) (P : D → Store → Prop) : Prop := ∃ xs ys, d1 = .tup xs ∧ d2 = .tup ys ∧ xs.length + ys.length ≤ sizeLine ∧ P (.tup (xs ++ ys)) S
theorem od_catT {d1 d2 : D} (h : catTW S d1 d2 P) : OpD X.K (rCatA X.K) d1 d2 S P := fun u H v1 v2 Q hS r1 r2 hQ => by
  obtain ⟨xs, ys, rfl, rfl, hl, h⟩ := h
  cases r1 with
  | tup h1 q1 =>
  cases r2 with
  | tup h2 q2 =>
  refine ⟨_, _, _, _, rfl, rfl, h1.sq, h2.sq, by rw [q1.length, q2.length]; exact hl, fun e => hQ _ _ ?_, fun _ e => hQ _ _ ?_, fun _ _ q hq => hQ _ _ (good_tup hS hq (q1.append q2) h)⟩
  · subst e
    cases q1
    exact .here hS (.tup h2 q2) h
  · subst e
    cases q2
    rw [List.append_nil] at h
    exact .here hS (.tup h1 q1) h
theorem je_catT (h : JE X a ρ S (fun d1 S1 => JE X b ρ S1 (fun d2 S2 => catTW S2 d1 d2 P) B) B) : JE X (.BinOp a .Add b pos) ρ S P B := je_op op_catA (h.mono fun _ _ q => q.mono fun _ _ q => od_catT q)
end
end J
/-! any thing of the store comes to rest -/
namespace J
open PySem PySem.Spec PyProof.Rows L2
mutual
def D.np (k : Nat) : D → Prop
  | .tup ds => npA k ds
  | .lst ds => npA k ds
  | .ptr j => j ≠ k
  | _ => True
def npA (k : Nat) : List D → Prop
  | [] => True
  | d :: ds => D.np k d ∧ npA k ds
end
def Cell.np (k : Nat) : Cell → Prop
  | .lst ds => npA k ds
  | .dK kvs => npA k (kvs.map (·.2))
  | .dT kvs => npA k (kvs.map (·.2))
  | .gone => True
def npS (k : Nat) : Sl → Prop
  | [] => True
  | none :: r => npS k r
  | some d :: r => D.np k d ∧ npS k r
def stNp (k : Nat) (S : Store) : Prop := ∀ (j : Nat) c, j ≠ k → S[j]? = some c → c.np k
mutual
theorem D.pl.np {k : Nat} : ∀ {d : D}, D.pl k d → D.np k d
  | .tup ds, h => by unfold D.pl at h; unfold D.np; exact plA.np h
  | .lst ds, h => by unfold D.pl at h; unfold D.np; exact plA.np h
  | .ptr j, h => by unfold D.pl at h; unfold D.np; omega
  | .non, _ | .bl _, _ | .int _, _ | .str _, _ | .val _, _ => by unfold D.np; trivial
theorem plA.np {k : Nat} : ∀ {d : List D}, plA k d → npA k d
  | [], _ => by unfold npA; trivial
  | d :: ds, h => by unfold plA at h; unfold npA; exact ⟨D.pl.np h.1, plA.np h.2⟩
end
theorem Cell.pl.np {k : Nat} {c : Cell} (h : c.pl k) : c.np k := by
  cases c with
  | lst ds => exact plA.np h
  | dK ds => exact plA.np h
  | dT ds => exact plA.np h
  | gone => trivial
theorem npA_mem {k : Nat} : ∀ {ds : List D}, (∀ d ∈ ds, D.np k d) → npA k ds
  | [], _ => by unfold npA; trivial
  | d :: ds, h => by unfold npA; exact ⟨h d (List.mem_cons_self ..), npA_mem fun x hx => h x (List.mem_cons_of_mem _ hx)⟩
theorem np_ptrs {k : Nat} {js : List Nat} (h : ∀ j ∈ js, j ≠ k) : npA k (js.map D.ptr) := npA_mem fun d hd => by
  obtain ⟨j, hj, rfl⟩ := List.mem_map.mp hd
  unfold D.np; exact h j hj
theorem np_ints {k : Nat} (ns : List Int) : npA k (intsD ns) := (pl_ints ns).np
theorem npS_get {k : Nat} : ∀ {ρ : Sl} {i : Nat} {d : D}, npS k ρ → ρ[i]? = some (some d) → D.np k d
  | [], _, _, _, e => by cases e
  | none :: r, 0, _, _, e => by cases e
  | some d :: r, 0, _, h, e => by cases e; exact h.1
  | none :: r, i + 1, _, h, e => npS_get (ρ := r) (i := i) h (by rw [List.getElem?_cons_succ] at e; exact e)
  | some d :: r, i + 1, _, h, e => npS_get (ρ := r) (i := i) h.2 (by rw [List.getElem?_cons_succ] at e; exact e)
section
variable {K : PySem.W.Frag} {u : Mu} {H : Hp} {S : Store} {k : Nat}
def Mu.hide (u : Mu) (k : Nat) : Mu := ⟨u.m.set k none, u.fr⟩
theorem hide_get {i : Nat} {a : Addr} (e : (u.hide k).m[i]? = some (some a)) : i ≠ k ∧ u.m[i]? = some (some a) := by
  unfold Mu.hide at e
  by_cases h : k = i
  · subst h
    rcases Nat.lt_or_ge k u.m.length with h | h
    · rw [List.getElem?_set_self h] at e; cases e
    · rw [List.getElem?_eq_none (by rw [List.length_set]; exact h)] at e; cases e
  · rw [List.getElem?_set_ne h] at e
    exact ⟨fun z => h z.symm, e⟩
theorem hide_mem {a : Addr} (h : some a ∈ (u.hide k).m) : some a ∈ u.m := by
  obtain ⟨i, hi⟩ := List.mem_iff_getElem?.mp h
  exact List.mem_of_getElem? (hide_get hi).2
theorem Mu.hide_off {a : Addr} (h : u.Off a) : (u.hide k).Off a := ⟨fun z => h.1 (hide_mem z), h.2⟩
theorem SqTo.hide {a : Addr} {vs : List V} (h : SqTo K u H a vs) : SqTo K (u.hide k) H a vs := by
  rcases h with ⟨h, ho⟩ | h
  · exact .inl ⟨h, Mu.hide_off ho⟩
  · exact .inr h
mutual
theorem Rp.hide : ∀ {v : V} {d : D}, Rp K u H v d → D.np k d → Rp K (u.hide k) H v d
  | _, _, .non, _ => .non
  | _, _, .bl b, _ => .bl b
  | _, _, .int i, _ => .int i
  | _, _, .str x, _ => .str x
  | _, _, .tup h r, q => .tup h.hide (RpA.hide r (by unfold D.np at q; exact q))
  | _, _, .lst h r, q => .lst ⟨h.1, Mu.hide_off h.2⟩ (RpA.hide r (by unfold D.np at q; exact q))
  | _, _, .ptr h, q => .ptr (by unfold D.np at q; unfold Mu.hide; rw [List.getElem?_set_ne (fun z => q z.symm)]; exact h)
  | _, _, .val v, _ => .val v
theorem RpA.hide : ∀ {v : List V} {d : List D}, RpA K u H v d → npA k d → RpA K (u.hide k) H v d
  | _, _, .nil, _ => .nil
  | _, _, .cons r t, q => .cons (Rp.hide r (by unfold npA at q; exact q.1)) (RpA.hide t (by unfold npA at q; exact q.2))
end
theorem CellR.hide {a : Addr} {c : Cell} (r : CellR K u H a c) (h : c.np k) : CellR K (u.hide k) H a c := by
  cases c with
  | lst ds => obtain ⟨vs, h1, h2⟩ := r; exact ⟨vs, h1, h2.hide h⟩
  | dK ds => obtain ⟨vs, h1, h2, h3⟩ := r; exact ⟨vs, h1, h2, h3.hide h⟩
  | dT ds => obtain ⟨vs, h1, h2, h3⟩ := r; exact ⟨vs, h1, h2, h3.hide h⟩
  | gone => trivial
theorem hide_sto (hS : StoR K u H S) (hp : stNp k S) : StoR K (u.hide k) H (S.set k .gone) where
  len := by unfold Mu.hide; simp only [List.length_set]; exact hS.len
  inj := fun i j a h1 h2 => hS.inj i j a (hide_get h1).2 (hide_get h2).2
  trk := fun a h => hS.trk a (hide_mem h)
  trf := fun a h => ⟨(hS.trf a h).1, fun z => (hS.trf a h).2 (hide_mem z)⟩
  sto := fun j c' e => by
    by_cases hj : k = j
    · subst hj
      rcases Nat.lt_or_ge k S.length with h | h
      · rw [List.getElem?_set_self h] at e; cases e; exact .inl rfl
      · rw [List.getElem?_eq_none (by rw [List.length_set]; exact h)] at e; cases e
    · rw [List.getElem?_set_ne hj] at e
      rcases hS.sto j c' e with h | ⟨a, h1, h2⟩
      · exact .inl h
      · refine .inr ⟨a, ?_, h2.hide (hp j c' (fun z => hj z.symm) e)⟩
        unfold Mu.hide; simp only; rw [List.getElem?_set_ne hj]; exact h1
theorem hide_adv {n : Nat} (hn : n ≤ k) : Adv n u H (u.hide k) H where
  pre := fun j hj => by unfold Mu.hide; simp only; rw [List.getElem?_set_ne (by omega)]
  new := fun j a e => .inl (List.mem_of_getElem? (hide_get e).2)
  keep := fun a o e _ => e
  mono := fun a o e => ⟨o, e⟩
  frn := fun a h => .inl h
  fr := rfl
  frk := fun a _ => rfl
end
section
variable {X : Cx} {n k : Nat} {S : Store} {ρ : Sl} {P : Out → Prop} {B : Bad} {sts : List Stmt}
/-- what a slot points to comes to rest, wherever it stands -/
theorem jss_restG {i : Nat} {ds : List D} (hi : ρ[i]? = some (some (.ptr k))) (hk : S[k]? = some (.lst ds)) (hn : n ≤ k) (hd : npA k ds) (hS : stNp k S) (hρ : npS k (ρ.set i none)) (h : JSs n X sts (ρ.set i (some (.lst ds))) (S.set k .gone) P B) : JSs n X sts ρ S P B :=
  fun u σ H Dd hn' hW hS0 hE hP => by
    have A : Adv n u H (u.hide k) H := hide_adv hn
    refine h (u.hide k) σ H Dd (by rw [List.length_set]; exact hn') (hW.after A) (hide_sto hS0 hS) ⟨?_, fun j d e => ?_⟩ (hP.after A)
    · rw [List.length_set]; exact hE.len
    · by_cases hj : i = j
      · subst hj
        obtain ⟨v, hv, r⟩ := hE.get i _ hi
        have hlt : i < ρ.length := (List.getElem?_eq_some_iff.mp hi).1
        rw [List.getElem?_set_self hlt] at e
        cases e
        refine ⟨v, hv, ?_⟩
        cases r with
        | ptr hk' =>
          rcases hS0.sto k (.lst ds) hk with z | ⟨a', ha', vs, h1, h2⟩
          · cases z
          · rw [hk'] at ha'; cases ha'
            refine .lst ⟨h1, fun z => ?_, fun z => (hS0.trf _ z).2 (List.mem_of_getElem? hk')⟩ (h2.hide hd)
            obtain ⟨j, hj⟩ := List.mem_iff_getElem?.mp z
            have hj' := hide_get hj
            exact hj'.1 (hS0.inj _ _ _ hj'.2 hk')
      · rw [List.getElem?_set_ne hj] at e
        obtain ⟨v, hv, r⟩ := hE.get j d e
        exact ⟨v, hv, r.hide (npS_get (i := j) hρ (by rw [List.getElem?_set_ne hj]; exact e))⟩
end
end J
/-! == of flat things, texts among them -/
namespace J
open PySem PySem.Spec PyProof.Rows L2
section
variable {X : Cx} {a b : Expr} {ρ : Sl} {S : Store} {P : D → Store → Prop} {PT : Bool → Store → Prop} {B : Bad} {pos : Pos}
def EqX (d1 d2 : D) (k : Bool → Prop) : Prop := ∃ x y, d1 = .str x ∧ d2 = .str y ∧ k (decide (x = y))
theorem dec_str {x y : Str} : decide (V.str x = V.str y) = decide (x = y) := by
  by_cases h : x = y
  · subst h; simp
  · simp [h]
theorem od_eqX {d1 d2 : D} (h : EqX d1 d2 fun t => P (.bl t) S) : OpD X.K rEq d1 d2 S P := fun u H v1 v2 Q hS r1 r2 hQ => by
  obtain ⟨x, y, rfl, rfl, q⟩ := h
  cases r1; cases r2
  refine ⟨rfl, hQ _ H (.here hS (.bl _) ?_)⟩
  rw [dec_str]; exact q
theorem od_neX {d1 d2 : D} (h : EqX d1 d2 fun t => P (.bl (!t)) S) : OpD X.K rNe d1 d2 S P := fun u H v1 v2 Q hS r1 r2 hQ => by
  obtain ⟨x, y, rfl, rfl, q⟩ := h
  cases r1; cases r2
  refine ⟨rfl, hQ _ H (.here hS (.bl _) ?_)⟩
  rw [dec_str]; exact q
theorem EqX.mono {d1 d2 : D} {k k' : Bool → Prop} (h : EqX d1 d2 k) (hk : ∀ t, k t → k' t) : EqX d1 d2 k' := by
  obtain ⟨x, y, e1, e2, q⟩ := h
  exact ⟨x, y, e1, e2, hk _ q⟩
theorem je_eqX (h : JE X a ρ S (fun d1 S1 => JE X b ρ S1 (fun d2 S2 => EqX d1 d2 fun t => P (.bl t) S2) B) B) : JE X (.Compare a [.Eq] [b] pos) ρ S P B := je_cmp op_eq (nomark _) (h.mono fun _ _ q => q.mono fun _ _ q => od_eqX q)
theorem je_neX (h : JE X a ρ S (fun d1 S1 => JE X b ρ S1 (fun d2 S2 => EqX d1 d2 fun t => P (.bl (!t)) S2) B) B) : JE X (.Compare a [.NotEq] [b] pos) ρ S P B := je_cmp op_ne (nomark _) (h.mono fun _ _ q => q.mono fun _ _ q => od_neX q)
theorem jt_eqX (h : JE X a ρ S (fun d1 S1 => JE X b ρ S1 (fun d2 S2 => EqX d1 d2 fun t => PT t S2) B) B) : JT X (.Compare a [.Eq] [b] pos) ρ S PT B := jt_cmp op_eq (nomark _) (h.mono fun _ _ q => q.mono fun _ _ q => od_eqX (q.mono fun t z => ⟨_, rfl, z⟩))
theorem jt_neX (h : JE X a ρ S (fun d1 S1 => JE X b ρ S1 (fun d2 S2 => EqX d1 d2 fun t => PT (!t) S2) B) B) : JT X (.Compare a [.NotEq] [b] pos) ρ S PT B := jt_cmp op_ne (nomark _) (h.mono fun _ _ q => q.mono fun _ _ q => od_neX (q.mono fun t z => ⟨_, rfl, z⟩))
theorem EqX_same {x : Str} {k : Bool → Prop} (h : k true) : EqX (.str x) (.str x) k := ⟨x, x, rfl, rfl, by rw [decide_eq_true rfl]; exact h⟩
end
end J
namespace O
open PySem PySem.Spec PyProof.Rows L2 J
def topS (i : Nat) : Stmt := PySem.Challenge.pw_oddkeys_k02_properties.main.body.getD i (.Pass ⟨0, 0, 0, 0⟩)
structure Bl (mg : Str → Option Value) : Prop where
  len : mg "len" = none
  all : mg "all" = none
  any : mg "any" = none
  max : mg "max" = none
  min : mg "min" = none
  abs : mg "abs" = none
  sum : mg "sum" = none
  sorted : mg "sorted" = none
  isinstance : mg "isinstance" = none
  int : mg "int" = none
  bool : mg "bool" = none
  list : mg "list" = none
  range : mg "range" = none
  enumerate : mg "enumerate" = none
  zip : mg "zip" = none
  repr : mg "repr" = none
local macro_rules | `(tactic| walk_at "vis") => `(tactic| first | exact Or.inl rfl | exact Or.inr (Or.inl rfl) | exact Or.inr (Or.inr rfl))
local macro_rules | `(tactic| walk_at "loc") => `(tactic| first | exact Or.inl rfl | exact Or.inr rfl)
local macro_rules | `(tactic| walk_at "hu") => `(tactic| exact Room.units (by assumption))
local macro_rules | `(tactic| walk_at "v") => `(tactic| first
  | refine je_var (i := 0) rfl (by walk_at "vis") rfl ?_
  | refine je_var (i := 1) rfl (by walk_at "vis") rfl ?_
  | refine je_var (i := 2) rfl (by walk_at "vis") rfl ?_
  | refine je_var (i := 3) rfl (by walk_at "vis") rfl ?_
  | refine je_var (i := 4) rfl (by walk_at "vis") rfl ?_
  | refine je_var (i := 5) rfl (by walk_at "vis") rfl ?_
  | refine je_var (i := 6) rfl (by walk_at "vis") rfl ?_
  | refine je_var (i := 7) rfl (by walk_at "vis") rfl ?_
  | refine je_var (i := 8) rfl (by walk_at "vis") rfl ?_
  | refine je_var (i := 9) rfl (by walk_at "vis") rfl ?_
  | refine je_var (i := 10) rfl (by walk_at "vis") rfl ?_
  | refine je_var (i := 11) rfl (by walk_at "vis") rfl ?_)
local macro_rules | `(tactic| walk_at "e") => `(tactic| first
  | with_reducible refine je_int ?_
  | with_reducible refine je_non ?_
  | with_reducible refine je_bl ?_
  | with_reducible refine je_str ?_
  | (with_reducible refine sh_name ?_); first | walk_at "v" | refine je_ty (by rfl) (Bl.int (by assumption)) bb_int ?_ | refine je_ty (by rfl) (Bl.bool (by assumption)) bb_bool ?_ | refine je_ty (by rfl) (Bl.list (by assumption)) bb_list ?_
  | (with_reducible refine sh_cons ?_); refine ja_cons ?_
  | with_reducible refine ja_nil ?_
  | with_reducible refine je_add ?_
  | with_reducible refine je_sub ?_
  | with_reducible refine je_mulI ?_
  | with_reducible refine je_mod ?_
  | with_reducible refine je_fdiv ?_
  | with_reducible refine je_powX ?_
  | (with_reducible refine je_eq ?_ ?_); walk_at "hu"
  | (with_reducible refine je_ne ?_ ?_); walk_at "hu"
  | with_reducible refine je_lt ?_
  | with_reducible refine je_le ?_
  | with_reducible refine je_gt ?_
  | with_reducible refine je_ge ?_
  | with_reducible refine je_isN ?_
  | with_reducible refine je_notN ?_
  | (with_reducible refine je_in ?_ ?_); rfl
  | (with_reducible refine je_nin ?_ ?_); rfl
  | (with_reducible refine je_chain ?_ ?_ ?_); first | exact op_le | exact op_lt | exact op_ge | exact op_gt; first | exact op_le | exact op_lt | exact op_ge | exact op_gt
  | with_reducible refine je_one ?_
  | with_reducible refine je_and ?_
  | with_reducible refine je_or ?_
  | with_reducible refine je_not ?_
  | with_reducible refine je_if ?_
  | with_reducible refine je_slice ?_
  | with_reducible refine jo_none ?_
  | with_reducible refine jo_some ?_
  | (with_reducible refine je_item ?_ ?_); exact (fun _ _ => rfl)
  | with_reducible refine je_lst ?_
  | with_reducible refine je_tup ?_
  | (with_reducible refine sh_callx "len" ?_); refine je_len (by rfl) (Bl.len (by assumption)) ?_
  | (with_reducible refine sh_callx "int" ?_); refine je_int1 (by rfl) (Bl.int (by assumption)) ?_
  | (with_reducible refine sh_callx "isinstance" ?_); refine je_isi (by rfl) (Bl.isinstance (by assumption)) ?_
  | (with_reducible refine sh_callx "all" ?_); refine je_all rfl (by rfl) (Bl.all (by assumption)) ?_
  | (with_reducible refine sh_callx "any" ?_); refine je_any rfl (by rfl) (Bl.any (by assumption)) ?_
  | (with_reducible refine sh_callx "abs" ?_); refine je_abs (by rfl) (Bl.abs (by assumption)) ?_
  | (with_reducible refine sh_callx "sorted" ?_); refine je_sorted (by rfl) (Bl.sorted (by assumption)) ?_
  | (with_reducible refine sh_callx "repr" ?_); refine je_repr (by assumption) (Room.units (by assumption)) (by rfl) (Bl.repr (by assumption)) ?_
  | (with_reducible refine sh_lr ?_); refine je_listR rfl (by rfl) (Bl.list (by assumption)) (by rfl) (Bl.range (by assumption)) ?_
  | (with_reducible refine sh_callx "list" ?_); refine je_list (by rfl) (Bl.list (by assumption)) ?_
  | (with_reducible refine sh_two "max" ?_); refine je_max2 rfl (by rfl) (Bl.max (by assumption)) ?_
  | (with_reducible refine sh_callx "max" ?_); refine je_maxL rfl (by rfl) (Bl.max (by assumption)) ?_
  | (with_reducible refine sh_two "min" ?_); refine je_min2 rfl (by rfl) (Bl.min (by assumption)) ?_
  | (with_reducible refine sh_call ?_); refine je_call (by assumption) (Room.mono (by assumption) (by decide)) (by assumption) (by rfl) ?_)
local macro_rules | `(tactic| walk_at "t") => `(tactic| first
  | with_reducible refine jt_w (jw_and ?_)
  | with_reducible refine jt_w (jw_or ?_)
  | with_reducible refine jw_and ?_
  | with_reducible refine jw_or ?_
  | with_reducible refine jw_and1 ?_
  | with_reducible refine jw_or1 ?_
  | with_reducible refine jt_not ?_
  | (with_reducible refine jt_eq ?_ ?_); walk_at "hu"
  | (with_reducible refine jt_ne ?_ ?_); walk_at "hu"
  | with_reducible refine jt_lt ?_
  | with_reducible refine jt_le ?_
  | with_reducible refine jt_gt ?_
  | with_reducible refine jt_ge ?_
  | with_reducible refine jt_isN ?_
  | with_reducible refine jt_notN ?_
  | (with_reducible refine jt_in ?_ ?_); rfl
  | (with_reducible refine jt_nin ?_ ?_); rfl
  | (with_reducible refine jt_chain2 ?_ ?_ ?_); first | exact op_le | exact op_lt | exact op_ge | exact op_gt; first | exact op_le | exact op_lt | exact op_ge | exact op_gt
  | (with_reducible refine sh_t ?_); refine jt_val ?_)
local macro_rules | `(tactic| walk_at "d") => `(tactic| first
  | with_reducible refine intW_mk ?_
  | with_reducible refine addW_int ?_
  | with_reducible refine lenW_lst ?_
  | with_reducible refine intCW_int ?_
  | with_reducible refine intCW_bl ?_
  | with_reducible refine EqW_int ?_
  | with_reducible refine EqW_ints ?_
  | with_reducible refine inW_ints ?_
  | with_reducible refine okT ?_
  | with_reducible refine okF ?_
  | with_reducible refine orT ?_
  | with_reducible refine orF ?_)
local macro_rules | `(tactic| walk_at "i") => `(tactic| first
  | (with_reducible refine sh_it "range" ?_); refine jit_range1 (by rfl) (Bl.range (by assumption)) ?_
  | (with_reducible refine sh_it "enumerate" ?_); refine jit_enum (by rfl) (Bl.enumerate (by assumption)) ?_
  | (with_reducible refine sh_it "zip" ?_); refine jit_zip (by rfl) (Bl.zip (by assumption)) ?_
  | refine jit_list ?_)
local macro_rules | `(tactic| walk_at "g") => `(tactic| repeat (first | walk_at "e" | walk_at "t" | walk_at "d"))
theorem le_sl {n : Nat} (h : n ≤ 100000) : n ≤ sizeLine := by
  have := sizeLine_eq
  omega
/-! relations -/
abbrev rowD (row : List Int) : D := .lst (intsD row)
abbrev relD (r : Mat) : D := .lst (r.map rowD)
theorem atI_to {α : Type} {xs : List α} {x : Int} {v : α} (h0 : 0 ≤ x) (h : xs[x.toNat]? = some v) : atI xs x = some v := by
  have := atI_nat h
  rwa [Int.toNat_of_nonneg h0] at this
theorem rel_at {r : Mat} {x : Int} (hx : In r x) : atI (r.map rowD) x = some (rowD (r.getD x.toNat [])) :=
  atI_map (f := rowD) (atI_to hx.1 (rel_row hx.lt))
theorem row_at {r : Mat} (R : Rel r) {x y : Int} (hx : In r x) (hy : In r y) : atI (intsD (r.getD x.toNat [])) y = some (.int (ans r x y)) := by
  refine atI_ints (atI_to hy.1 ?_)
  have hm : r.getD x.toNat [] ∈ r := List.mem_of_getElem? (rel_row hx.lt)
  have hl := R.sq _ hm
  unfold ans
  generalize r.getD x.toNat [] = q at hl ⊢
  rw [List.getD_eq_getElem?_getD, List.getElem?_eq_getElem (by rw [hl]; exact hy.lt)]; rfl
def optD : Option Int → D
  | none => .non
  | some x => .int x
theorem isN_opt (o : Option Int) : isN (optD o) = some o.isNone := by cases o <;> rfl
section
variable {P : Program} {w : World} {K : PySem.W.Frag} {mg : Str → Option Value} {base : Heap}
/-! is_whole, is_key, is_answer -/
abbrev s_is_whole : Stmt := topS 3
theorem sc_is_whole : FnScope ["thing"] ["thing"] (defScope s_is_whole) := ⟨rfl, rfl, rfl, by decide +kernel, rfl, by decide +kernel, by decide +kernel⟩
def sp_is_whole : DSpec := fun ds S P _ => ∃ i : Int, ds = [.int i] ∧ P (.bl true) S
theorem g_is_whole (T : Bl mg) (dd : Df K mg "is_whole" s_is_whole) : GF P w K mg base 1 "is_whole" ["thing"] sp_is_whole := by
  refine gf_of dd sc_is_whole (fun _ _ _ _ _ _ us hl => match us, hl with | [_], _ => rfl) fun f cdv A outer s H E ds S PP EE hr hgd hl h => ?_
  obtain ⟨i, rfl, h⟩ := h
  refine jss_one (js_ret ?_)
  walk_at "g"
  refine ⟨_, _, _, true, rfl, rfl, by decide +kernel, true, rfl, okT ?_⟩
  walk_at "g"
  exact ⟨_, _, _, false, rfl, rfl, by decide +kernel, false, rfl, h⟩
abbrev s_is_answer : Stmt := topS 4
theorem sc_is_answer : FnScope ["thing"] ["thing"] (defScope s_is_answer) := ⟨rfl, rfl, rfl, by decide +kernel, rfl, by decide +kernel, by decide +kernel⟩
def sp_is_answer : DSpec := fun ds S P _ => ∃ i : Int, ds = [.int i] ∧ 0 ≤ i ∧ i ≤ 1 ∧ P (.bl true) S
theorem g_is_answer (G1 : GF P w K mg base 1 "is_whole" ["thing"] sp_is_whole) (dd : Df K mg "is_answer" s_is_answer) : GF P w K mg base 2 "is_answer" ["thing"] sp_is_answer := by
  refine gf_of dd sc_is_answer (fun _ _ _ _ _ _ us hl => match us, hl with | [_], _ => rfl) fun f cdv A outer s H E ds S PP EE hr hgd hl h => ?_
  obtain ⟨i, rfl, h1, h2, h⟩ := h
  refine jss_one (js_ret ?_)
  walk_at "g"
  refine ⟨rfl, i, rfl, true, rfl, okT ?_⟩
  walk_at "g"
  refine je_chain op_le op_le ?_
  walk_at "g"
  rw [decide_eq_true h1]
  first | refine okT ?_ | refine orT ?_
  walk_at "g"
  rw [decide_eq_true h2]
  exact h
/-! stands -/
abbrev s_stands : Stmt := topS 6
theorem sc_stands : FnScope ["relation", "one", "other"] ["relation", "one", "other"] (defScope s_stands) := ⟨rfl, rfl, rfl, by decide +kernel, rfl, by decide +kernel, by decide +kernel⟩
def sp_stands : DSpec := fun ds S P _ => ∃ r x y, ds = [relD r, .int x, .int y] ∧ Rel r ∧ In r x ∧ In r y ∧ P (.bl (st r x y)) S
theorem g_stands (dd : Df K mg "stands" s_stands) : GF P w K mg base 1 "stands" ["relation", "one", "other"] sp_stands := by
  refine gf_of dd sc_stands (fun _ _ _ _ _ _ us hl => match us, hl with | [_, _, _], _ => rfl) fun f cdv A outer s H E ds S PP EE hr hgd hl h => ?_
  obtain ⟨r, x, y, rfl, R, hx, hy, h⟩ := h
  refine jss_one (js_ret ?_)
  walk_at "g"
  refine ixW_lst (rel_at hx) ?_
  walk_at "g"
  refine ixW_lst (row_at R hx hy) ?_
  walk_at "g"
  exact h
/-! key_found -/
end
end O
namespace O
open PySem PySem.Spec PyProof.Rows L2 J
local macro_rules | `(tactic| walk_at "vis") => `(tactic| first | exact Or.inl rfl | exact Or.inr (Or.inl rfl) | exact Or.inr (Or.inr rfl))
local macro_rules | `(tactic| walk_at "loc") => `(tactic| first | exact Or.inl rfl | exact Or.inr rfl)
local macro_rules | `(tactic| walk_at "hu") => `(tactic| exact Room.units (by assumption))
local macro_rules | `(tactic| walk_at "v") => `(tactic| first
  | refine je_var (i := 0) rfl (by walk_at "vis") rfl ?_
  | refine je_var (i := 1) rfl (by walk_at "vis") rfl ?_
  | refine je_var (i := 2) rfl (by walk_at "vis") rfl ?_
  | refine je_var (i := 3) rfl (by walk_at "vis") rfl ?_
  | refine je_var (i := 4) rfl (by walk_at "vis") rfl ?_
  | refine je_var (i := 5) rfl (by walk_at "vis") rfl ?_
  | refine je_var (i := 6) rfl (by walk_at "vis") rfl ?_
  | refine je_var (i := 7) rfl (by walk_at "vis") rfl ?_
  | refine je_var (i := 8) rfl (by walk_at "vis") rfl ?_
  | refine je_var (i := 9) rfl (by walk_at "vis") rfl ?_
  | refine je_var (i := 10) rfl (by walk_at "vis") rfl ?_
  | refine je_var (i := 11) rfl (by walk_at "vis") rfl ?_)
local macro_rules | `(tactic| walk_at "e") => `(tactic| first
  | with_reducible refine je_int ?_
  | with_reducible refine je_non ?_
  | with_reducible refine je_bl ?_
  | with_reducible refine je_str ?_
  | (with_reducible refine sh_name ?_); first | walk_at "v" | refine je_ty (by rfl) (Bl.int (by assumption)) bb_int ?_ | refine je_ty (by rfl) (Bl.bool (by assumption)) bb_bool ?_ | refine je_ty (by rfl) (Bl.list (by assumption)) bb_list ?_
  | (with_reducible refine sh_cons ?_); refine ja_cons ?_
  | with_reducible refine ja_nil ?_
  | with_reducible refine je_add ?_
  | with_reducible refine je_sub ?_
  | with_reducible refine je_mulI ?_
  | with_reducible refine je_mod ?_
  | with_reducible refine je_fdiv ?_
  | with_reducible refine je_powX ?_
  | (with_reducible refine je_eq ?_ ?_); walk_at "hu"
  | (with_reducible refine je_ne ?_ ?_); walk_at "hu"
  | with_reducible refine je_lt ?_
  | with_reducible refine je_le ?_
  | with_reducible refine je_gt ?_
  | with_reducible refine je_ge ?_
  | with_reducible refine je_isN ?_
  | with_reducible refine je_notN ?_
  | (with_reducible refine je_in ?_ ?_); rfl
  | (with_reducible refine je_nin ?_ ?_); rfl
  | (with_reducible refine je_chain ?_ ?_ ?_); first | exact op_le | exact op_lt | exact op_ge | exact op_gt; first | exact op_le | exact op_lt | exact op_ge | exact op_gt
  | with_reducible refine je_one ?_
  | with_reducible refine je_and ?_
  | with_reducible refine je_or ?_
  | with_reducible refine je_not ?_
  | with_reducible refine je_if ?_
  | with_reducible refine je_slice ?_
  | with_reducible refine jo_none ?_
  | with_reducible refine jo_some ?_
  | (with_reducible refine je_item ?_ ?_); exact (fun _ _ => rfl)
  | with_reducible refine je_lst ?_
  | with_reducible refine je_tup ?_
  | (with_reducible refine sh_callx "len" ?_); refine je_len (by rfl) (Bl.len (by assumption)) ?_
  | (with_reducible refine sh_callx "int" ?_); refine je_int1 (by rfl) (Bl.int (by assumption)) ?_
  | (with_reducible refine sh_callx "isinstance" ?_); refine je_isi (by rfl) (Bl.isinstance (by assumption)) ?_
  | (with_reducible refine sh_callx "all" ?_); refine je_all rfl (by rfl) (Bl.all (by assumption)) ?_
  | (with_reducible refine sh_callx "any" ?_); refine je_any rfl (by rfl) (Bl.any (by assumption)) ?_
  | (with_reducible refine sh_callx "abs" ?_); refine je_abs (by rfl) (Bl.abs (by assumption)) ?_
  | (with_reducible refine sh_callx "sorted" ?_); refine je_sorted (by rfl) (Bl.sorted (by assumption)) ?_
  | (with_reducible refine sh_callx "repr" ?_); refine je_repr (by assumption) (Room.units (by assumption)) (by rfl) (Bl.repr (by assumption)) ?_
  | (with_reducible refine sh_lr ?_); refine je_listR rfl (by rfl) (Bl.list (by assumption)) (by rfl) (Bl.range (by assumption)) ?_
  | (with_reducible refine sh_callx "list" ?_); refine je_list (by rfl) (Bl.list (by assumption)) ?_
  | (with_reducible refine sh_two "max" ?_); refine je_max2 rfl (by rfl) (Bl.max (by assumption)) ?_
  | (with_reducible refine sh_callx "max" ?_); refine je_maxL rfl (by rfl) (Bl.max (by assumption)) ?_
  | (with_reducible refine sh_two "min" ?_); refine je_min2 rfl (by rfl) (Bl.min (by assumption)) ?_
  | (with_reducible refine sh_call ?_); refine je_call (by assumption) (Room.mono (by assumption) (by decide)) (by assumption) (by rfl) ?_)
local macro_rules | `(tactic| walk_at "t") => `(tactic| first
  | with_reducible refine jt_w (jw_and ?_)
  | with_reducible refine jt_w (jw_or ?_)
  | with_reducible refine jw_and ?_
  | with_reducible refine jw_or ?_
  | with_reducible refine jw_and1 ?_
  | with_reducible refine jw_or1 ?_
  | with_reducible refine jt_not ?_
  | (with_reducible refine jt_eq ?_ ?_); walk_at "hu"
  | (with_reducible refine jt_ne ?_ ?_); walk_at "hu"
  | with_reducible refine jt_lt ?_
  | with_reducible refine jt_le ?_
  | with_reducible refine jt_gt ?_
  | with_reducible refine jt_ge ?_
  | with_reducible refine jt_isN ?_
  | with_reducible refine jt_notN ?_
  | (with_reducible refine jt_in ?_ ?_); rfl
  | (with_reducible refine jt_nin ?_ ?_); rfl
  | (with_reducible refine jt_chain2 ?_ ?_ ?_); first | exact op_le | exact op_lt | exact op_ge | exact op_gt; first | exact op_le | exact op_lt | exact op_ge | exact op_gt
  | (with_reducible refine sh_t ?_); refine jt_val ?_)
local macro_rules | `(tactic| walk_at "d") => `(tactic| first
  | with_reducible refine intW_mk ?_
  | with_reducible refine addW_int ?_
  | with_reducible refine lenW_lst ?_
  | with_reducible refine intCW_int ?_
  | with_reducible refine intCW_bl ?_
  | with_reducible refine EqW_int ?_
  | with_reducible refine EqW_ints ?_
  | with_reducible refine inW_ints ?_
  | with_reducible refine okT ?_
  | with_reducible refine okF ?_
  | with_reducible refine orT ?_
  | with_reducible refine orF ?_)
local macro_rules | `(tactic| walk_at "i") => `(tactic| first
  | (with_reducible refine sh_it "range" ?_); refine jit_range1 (by rfl) (Bl.range (by assumption)) ?_
  | (with_reducible refine sh_it "enumerate" ?_); refine jit_enum (by rfl) (Bl.enumerate (by assumption)) ?_
  | (with_reducible refine sh_it "zip" ?_); refine jit_zip (by rfl) (Bl.zip (by assumption)) ?_
  | refine jit_list ?_)
local macro_rules | `(tactic| walk_at "g") => `(tactic| repeat (first | walk_at "e" | walk_at "t" | walk_at "d"))
section
variable {P : Program} {w : World} {K : PySem.W.Frag} {mg : Str → Option Value} {base : Heap}
abbrev s_check_relation : Stmt := topS 5
theorem sc_check_relation : FnScope ["relation", "key", "answers", "answer"] ["relation"] (defScope s_check_relation) := ⟨rfl, rfl, rfl, by decide +kernel, rfl, by decide +kernel, by decide +kernel⟩
def sp_check_relation : DSpec := fun ds S P _ => ∃ r, ds = [relD r] ∧ Rel r ∧ P .non S
theorem g_check_relation (T : Bl mg) (G1 : GF P w K mg base 2 "is_answer" ["thing"] sp_is_answer) (dd : Df K mg "check_relation" s_check_relation) : GF P w K mg base 3 "check_relation" ["relation"] sp_check_relation := by
  refine gf_of dd sc_check_relation (fun _ _ _ _ _ _ us hl => match us, hl with | [_], _ => rfl) fun f cdv A outer s H E ds S PP EE hr hgd hl h => ?_
  obtain ⟨r, rfl, R, h⟩ := h
  have hf := R.few
  refine jss_cons (js_if ?_)
  walk_at "g"
  refine ⟨_, _, _, true, rfl, rfl, by decide +kernel, true, rfl, orF ?_⟩
  walk_at "g"
  refine je_lc1 (.nm 2) [("answers", 2)] rfl sc_check_relation.nd (by kernel_rfl) (fun b => pg_name (i := 2) sc_check_relation.nd rfl (Or.inl rfl)) ?_
  walk_at "i"
  walk_at "g"
  refine ⟨_, rfl, lpp_map rowD (fun _ => .bl true) r rfl (fun a ha => ⟨_, rfl, fun b PP q => ?_⟩) (le_sl (by omega)) ?_⟩
  · walk_at "g"
    exact ⟨_, _, _, true, rfl, rfl, by decide +kernel, q⟩
  show JA _ _ _ _ _ _
  walk_at "g"
  refine ⟨_, _, rfl, congrArg D.lst (bls_true r), _, rfl, ?_⟩
  rw [all_true]
  refine okF ?_
  refine jss_nil ?_
  refine jss_one (js_forT (.tp [1, 2]) passes_own rfl (pg_tup rfl (pgs_cons (pg_name (i := 1) sc_check_relation.nd rfl (by walk_at "loc")) (pgs_cons (pg_name (i := 2) sc_check_relation.nd rfl (by walk_at "loc")) pgs_nil))) ?_)
  walk_at "i"
  walk_at "g"
  refine ⟨_, rfl, ?_⟩
  rw [enum_map]
  refine loop_inv (Iv := fun items ρ S' => ∃ (ps : List (Nat × List Int)) (o1 o2 o3 : Option D), items = ps.map (fun p => D.tup [.int (p.1 : Nat), rowD p.2]) ∧ (∀ p ∈ ps, r[p.1]? = some p.2) ∧ S' = S ∧ ρ = [some (relD r), o1, o2, o3]) ?_ ?_ ⟨_, none, none, none, rfl, fun p hp => enum_mem hp, rfl, rfl⟩
  · rintro d ds ρ S' ⟨ps, o1, o2, o3, e1, hp, rfl, rfl⟩
    cases ps with
    | nil => cases e1
    | cons p ps =>
      cases e1
      obtain ⟨hl1, hb1, hd1⟩ := R.row (hp p (List.mem_cons_self ..))
      refine ⟨_, rfl, jss_one (js_if ?_)⟩
      walk_at "g"
      rw [intsD_len, List.length_map, hl1, decide_eq_true rfl]
      refine orF ?_
      walk_at "g"
      refine je_lc1 (.nm 3) [("answer", 3)] rfl sc_check_relation.nd (by kernel_rfl) (fun b => pg_name (i := 3) sc_check_relation.nd rfl (Or.inl rfl)) ?_
      walk_at "i"
      walk_at "g"
      refine ⟨_, rfl, lpp_map D.int (fun _ => .bl true) p.2 rfl (fun a ha => ⟨_, rfl, fun b PP q => ?_⟩) (le_sl (by omega)) ?_⟩
      · walk_at "g"
        refine ⟨rfl, a, rfl, ?_, ?_, q⟩
        · rcases hb1 a ha with h | h <;> omega
        · rcases hb1 a ha with h | h <;> omega
      show JA _ _ _ _ _ _
      walk_at "g"
      refine ⟨_, _, rfl, congrArg D.lst (bls_true p.2), _, rfl, ?_⟩
      rw [all_true]
      refine orF ?_
      walk_at "g"
      refine ixW_lst (atI_ints (atI_nat hd1)) ?_
      walk_at "g"
      refine okF ?_
      exact jss_nil ⟨ps, _, _, _, rfl, fun q hq => hp q (List.mem_cons_of_mem _ hq), rfl, rfl⟩
  · rintro ρ S' ⟨ps, o1, o2, o3, e1, hp, rfl, rfl⟩
    exact h
end
end O
namespace O
open PySem PySem.Spec PyProof.Rows L2 J
local macro_rules | `(tactic| walk_at "vis") => `(tactic| first | exact Or.inl rfl | exact Or.inr (Or.inl rfl) | exact Or.inr (Or.inr rfl))
local macro_rules | `(tactic| walk_at "loc") => `(tactic| first | exact Or.inl rfl | exact Or.inr rfl)
local macro_rules | `(tactic| walk_at "hu") => `(tactic| exact Room.units (by assumption))
local macro_rules | `(tactic| walk_at "v") => `(tactic| first
  | refine je_var (i := 0) rfl (by walk_at "vis") rfl ?_
  | refine je_var (i := 1) rfl (by walk_at "vis") rfl ?_
  | refine je_var (i := 2) rfl (by walk_at "vis") rfl ?_
  | refine je_var (i := 3) rfl (by walk_at "vis") rfl ?_
  | refine je_var (i := 4) rfl (by walk_at "vis") rfl ?_
  | refine je_var (i := 5) rfl (by walk_at "vis") rfl ?_
  | refine je_var (i := 6) rfl (by walk_at "vis") rfl ?_
  | refine je_var (i := 7) rfl (by walk_at "vis") rfl ?_
  | refine je_var (i := 8) rfl (by walk_at "vis") rfl ?_
  | refine je_var (i := 9) rfl (by walk_at "vis") rfl ?_
  | refine je_var (i := 10) rfl (by walk_at "vis") rfl ?_
  | refine je_var (i := 11) rfl (by walk_at "vis") rfl ?_)
local macro_rules | `(tactic| walk_at "e") => `(tactic| first
  | with_reducible refine je_int ?_
  | with_reducible refine je_non ?_
  | with_reducible refine je_bl ?_
  | with_reducible refine je_str ?_
  | (with_reducible refine sh_name ?_); first | walk_at "v" | refine je_ty (by rfl) (Bl.int (by assumption)) bb_int ?_ | refine je_ty (by rfl) (Bl.bool (by assumption)) bb_bool ?_ | refine je_ty (by rfl) (Bl.list (by assumption)) bb_list ?_
  | (with_reducible refine sh_cons ?_); refine ja_cons ?_
  | with_reducible refine ja_nil ?_
  | with_reducible refine je_add ?_
  | with_reducible refine je_sub ?_
  | with_reducible refine je_mulI ?_
  | with_reducible refine je_mod ?_
  | with_reducible refine je_fdiv ?_
  | with_reducible refine je_powX ?_
  | (with_reducible refine je_eq ?_ ?_); walk_at "hu"
  | (with_reducible refine je_ne ?_ ?_); walk_at "hu"
  | with_reducible refine je_lt ?_
  | with_reducible refine je_le ?_
  | with_reducible refine je_gt ?_
  | with_reducible refine je_ge ?_
  | with_reducible refine je_isN ?_
  | with_reducible refine je_notN ?_
  | (with_reducible refine je_in ?_ ?_); rfl
  | (with_reducible refine je_nin ?_ ?_); rfl
  | (with_reducible refine je_chain ?_ ?_ ?_); first | exact op_le | exact op_lt | exact op_ge | exact op_gt; first | exact op_le | exact op_lt | exact op_ge | exact op_gt
  | with_reducible refine je_one ?_
  | with_reducible refine je_and ?_
  | with_reducible refine je_or ?_
  | with_reducible refine je_not ?_
  | with_reducible refine je_if ?_
  | with_reducible refine je_slice ?_
  | with_reducible refine jo_none ?_
  | with_reducible refine jo_some ?_
  | (with_reducible refine je_item ?_ ?_); exact (fun _ _ => rfl)
  | with_reducible refine je_lst ?_
  | with_reducible refine je_tup ?_
  | (with_reducible refine sh_callx "len" ?_); refine je_len (by rfl) (Bl.len (by assumption)) ?_
  | (with_reducible refine sh_callx "int" ?_); refine je_int1 (by rfl) (Bl.int (by assumption)) ?_
  | (with_reducible refine sh_callx "isinstance" ?_); refine je_isi (by rfl) (Bl.isinstance (by assumption)) ?_
  | (with_reducible refine sh_callx "all" ?_); refine je_all rfl (by rfl) (Bl.all (by assumption)) ?_
  | (with_reducible refine sh_callx "any" ?_); refine je_any rfl (by rfl) (Bl.any (by assumption)) ?_
  | (with_reducible refine sh_callx "abs" ?_); refine je_abs (by rfl) (Bl.abs (by assumption)) ?_
  | (with_reducible refine sh_callx "sorted" ?_); refine je_sorted (by rfl) (Bl.sorted (by assumption)) ?_
  | (with_reducible refine sh_callx "repr" ?_); refine je_repr (by assumption) (Room.units (by assumption)) (by rfl) (Bl.repr (by assumption)) ?_
  | (with_reducible refine sh_lr ?_); refine je_listR rfl (by rfl) (Bl.list (by assumption)) (by rfl) (Bl.range (by assumption)) ?_
  | (with_reducible refine sh_callx "list" ?_); refine je_list (by rfl) (Bl.list (by assumption)) ?_
  | (with_reducible refine sh_two "max" ?_); refine je_max2 rfl (by rfl) (Bl.max (by assumption)) ?_
  | (with_reducible refine sh_callx "max" ?_); refine je_maxL rfl (by rfl) (Bl.max (by assumption)) ?_
  | (with_reducible refine sh_two "min" ?_); refine je_min2 rfl (by rfl) (Bl.min (by assumption)) ?_
  | (with_reducible refine sh_call ?_); refine je_call (by assumption) (Room.mono (by assumption) (by decide)) (by assumption) (by rfl) ?_)
local macro_rules | `(tactic| walk_at "t") => `(tactic| first
  | with_reducible refine jt_w (jw_and ?_)
  | with_reducible refine jt_w (jw_or ?_)
  | with_reducible refine jw_and ?_
  | with_reducible refine jw_or ?_
  | with_reducible refine jw_and1 ?_
  | with_reducible refine jw_or1 ?_
  | with_reducible refine jt_not ?_
  | (with_reducible refine jt_eq ?_ ?_); walk_at "hu"
  | (with_reducible refine jt_ne ?_ ?_); walk_at "hu"
  | with_reducible refine jt_lt ?_
  | with_reducible refine jt_le ?_
  | with_reducible refine jt_gt ?_
  | with_reducible refine jt_ge ?_
  | with_reducible refine jt_isN ?_
  | with_reducible refine jt_notN ?_
  | (with_reducible refine jt_in ?_ ?_); rfl
  | (with_reducible refine jt_nin ?_ ?_); rfl
  | (with_reducible refine jt_chain2 ?_ ?_ ?_); first | exact op_le | exact op_lt | exact op_ge | exact op_gt; first | exact op_le | exact op_lt | exact op_ge | exact op_gt
  | (with_reducible refine sh_t ?_); refine jt_val ?_)
local macro_rules | `(tactic| walk_at "d") => `(tactic| first
  | with_reducible refine intW_mk ?_
  | with_reducible refine addW_int ?_
  | with_reducible refine lenW_lst ?_
  | with_reducible refine intCW_int ?_
  | with_reducible refine intCW_bl ?_
  | with_reducible refine EqW_int ?_
  | with_reducible refine EqW_ints ?_
  | with_reducible refine inW_ints ?_
  | with_reducible refine okT ?_
  | with_reducible refine okF ?_
  | with_reducible refine orT ?_
  | with_reducible refine orF ?_)
local macro_rules | `(tactic| walk_at "i") => `(tactic| first
  | (with_reducible refine sh_it "range" ?_); refine jit_range1 (by rfl) (Bl.range (by assumption)) ?_
  | (with_reducible refine sh_it "enumerate" ?_); refine jit_enum (by rfl) (Bl.enumerate (by assumption)) ?_
  | (with_reducible refine sh_it "zip" ?_); refine jit_zip (by rfl) (Bl.zip (by assumption)) ?_
  | refine jit_list ?_)
local macro_rules | `(tactic| walk_at "g") => `(tactic| repeat (first | walk_at "e" | walk_at "t" | walk_at "d"))
def osi (r : Mat) : List D := ((ks r).filter fun _ => true).flatMap fun x => ((ks r).filter fun y => st r x y && !st r y x).flatMap fun y => [D.tup [.int x, .int y]]
abbrev triD (t : Int × Int × Int) : D := .tup [.int t.1, .int t.2.1, .int t.2.2]
def otr (r : Mat) : List D := ((stp r).filter fun t => !st r t.1 t.2.2).map triD
abbrev pairD (t : Int × Int) : D := .tup [.int t.1, .int t.2]
theorem osi_eq (r : Mat) : osi r = (osP r).map pairD := by
  unfold osi osP
  rw [filter_all, List.map_flatMap]
  congr 1; funext x
  rw [List.map_map, List.flatMap_def]
  generalize (ks r).filter (fun y => st r x y && !st r y x) = ys
  induction ys with
  | nil => rfl
  | cons y ys ih => rw [List.map_cons, List.map_cons, List.flatten_cons, ih]; rfl
theorem otr_eq (r : Mat) : otr r = (otP r).map triD := rfl
theorem osi_len {r : Mat} (R : Rel r) : (osi r).length ≤ 100 := flat2 R _ _ 10 fun x => flat1 R _ _
section
variable {P : Program} {w : World} {K : PySem.W.Frag} {mg : Str → Option Value} {base : Heap}
abbrev s_one_sided_in : Stmt := topS 8
theorem sc_one_sided_in : FnScope ["relation", "keys", "x", "y"] ["relation"] (defScope s_one_sided_in) := ⟨rfl, rfl, rfl, by decide +kernel, rfl, by decide +kernel, by decide +kernel⟩
def sp_one_sided_in : DSpec := fun ds S P _ => ∃ r, ds = [relD r] ∧ Rel r ∧ P (.lst (osi r)) S
theorem g_one_sided_in (T : Bl mg) (G1 : GF P w K mg base 1 "stands" ["relation", "one", "other"] sp_stands) (dd : Df K mg "one_sided_in" s_one_sided_in) : GF P w K mg base 2 "one_sided_in" ["relation"] sp_one_sided_in := by
  refine gf_of dd sc_one_sided_in (fun _ _ _ _ _ _ us hl => match us, hl with | [_], _ => rfl) fun f cdv A outer s H E ds S PP EE hr hgd hl h => ?_
  obtain ⟨r, rfl, R, h⟩ := h
  have hf := R.few
  refine jss_cons (js_set (i := 1) sc_one_sided_in.nd rfl (by walk_at "loc") ?_)
  walk_at "g"
  refine ⟨_, rfl, by omega, by rw [List.length_map]; omega, ?_⟩
  rw [List.length_map, Int.toNat_natCast, irow_keys]
  refine jss_one (js_ret ?_)
  refine je_lc2 (.nm 2) (.nm 3) [("x", 2), ("y", 3)] rfl sc_one_sided_in.nd (by kernel_rfl) (fun b => pg_name (i := 2) sc_one_sided_in.nd rfl (Or.inl rfl)) (fun b => pg_name (i := 3) sc_one_sided_in.nd rfl (Or.inl rfl)) ?_
  walk_at "i"
  walk_at "g"
  refine ⟨_, rfl, lpp_flat D.int (fun _ => true) (fun x => ((ks r).filter fun y => st r x y && !st r y x).flatMap fun y => [D.tup [.int x, .int y]]) (ks r) [] (fun x hx => ⟨_, rfl, fun b PT q => jts_nil q, fun _ acc k' hz hk b => ?_⟩) (le_sl ?_) h⟩
  · walk_at "i"
    walk_at "g"
    refine ⟨_, rfl, lpp_flat D.int (fun y => st r x y && !st r y x) (fun y => [D.tup [.int x, .int y]]) (ks r) acc (fun y hy => ⟨_, rfl, fun b PT q => jts_one ?_, fun _ acc k' hz hk b => ?_⟩) hz hk⟩
    · walk_at "g"
      refine ⟨rfl, r, x, y, rfl, R, ks_in hx, ks_in hy, _, rfl, fun e => ?_, fun e => ?_⟩
      · walk_at "g"
        refine ⟨rfl, r, y, x, rfl, R, ks_in hy, ks_in hx, _, rfl, ?_⟩
        rw [e, Bool.true_and] at q
        exact q
      · rw [e, Bool.false_and] at q
        exact q
    · walk_at "g"
      exact ⟨le_sl (n := 2) (by decide), hz, hk⟩
  · exact Nat.le_trans (Nat.add_le_add_left (osi_len R) 0) (by decide)
abbrev s_open_triples : Stmt := topS 9
theorem sc_open_triples : FnScope ["relation", "keys", "steps", "x", "y", "z"] ["relation"] (defScope s_open_triples) := ⟨rfl, rfl, rfl, by decide +kernel, rfl, by decide +kernel, by decide +kernel⟩
def sp_open_triples : DSpec := fun ds S P _ => ∃ r, ds = [relD r] ∧ Rel r ∧ P (.lst (otr r)) S
theorem g_open_triples (T : Bl mg) (G1 : GF P w K mg base 1 "stands" ["relation", "one", "other"] sp_stands) (dd : Df K mg "open_triples" s_open_triples) : GF P w K mg base 2 "open_triples" ["relation"] sp_open_triples := by
  refine gf_of dd sc_open_triples (fun _ _ _ _ _ _ us hl => match us, hl with | [_], _ => rfl) fun f cdv A outer s H E ds S PP EE hr hgd hl h => ?_
  obtain ⟨r, rfl, R, h⟩ := h
  have hf := R.few
  refine jss_cons (js_set (i := 1) sc_open_triples.nd rfl (by walk_at "loc") ?_)
  walk_at "g"
  refine ⟨_, rfl, by omega, by rw [List.length_map]; omega, ?_⟩
  rw [List.length_map, Int.toNat_natCast, irow_keys]
  have hin : ∀ {x y z : Int}, (x, y, z) ∈ stp r → In r x ∧ In r y ∧ In r z := fun {x y z} h => by
    unfold stp at h
    simp only [List.mem_flatMap, List.mem_filter, List.mem_singleton, Prod.mk.injEq] at h
    obtain ⟨a, ⟨ha, _⟩, b, ⟨hb, _⟩, c, ⟨hc, _⟩, rfl, rfl, rfl⟩ := h
    exact ⟨ks_in ha, ks_in hb, ks_in hc⟩
  have eD : (((ks r).filter fun _ => true).flatMap fun x => ((ks r).filter (st r x)).flatMap fun y => ((ks r).filter (st r y)).flatMap fun z => [D.tup [.int x, .int y, .int z]]) = (stp r).map triD := by
    unfold stp
    simp only [List.map_flatMap, List.map_cons, List.map_nil]
  refine jss_cons (js_lc3 (i := 2) rfl rfl (.nm 3) (.nm 4) (.nm 5) [("x", 3), ("y", 4), ("z", 5)] rfl sc_open_triples.nd (by kernel_rfl) (fun b => pg_name (i := 3) sc_open_triples.nd rfl (Or.inl rfl)) (fun b => pg_name (i := 4) sc_open_triples.nd rfl (Or.inl rfl)) (fun b => pg_name (i := 5) sc_open_triples.nd rfl (Or.inl rfl)) ?_)
  walk_at "i"
  walk_at "g"
  refine ⟨_, rfl, lpp_flat D.int (fun _ => true) (fun x => ((ks r).filter (st r x)).flatMap fun y => ((ks r).filter (st r y)).flatMap fun z => [D.tup [.int x, .int y, .int z]]) (ks r) [] (fun x hx => ⟨_, rfl, fun b PT q => jts_nil q, fun _ acc k' hz hk b => ?_⟩) (le_sl ?_) ?_⟩
  · walk_at "i"
    walk_at "g"
    refine ⟨_, rfl, lpp_flat D.int (st r x) (fun y => ((ks r).filter (st r y)).flatMap fun z => [D.tup [.int x, .int y, .int z]]) (ks r) acc (fun y hy => ⟨_, rfl, fun b PT q => jts_one ?_, fun _ acc k' hz hk b => ?_⟩) hz hk⟩
    · walk_at "g"
      exact ⟨rfl, r, x, y, rfl, R, ks_in hx, ks_in hy, _, rfl, q⟩
    · walk_at "i"
      walk_at "g"
      refine ⟨_, rfl, lpp_flat D.int (st r y) (fun z => [D.tup [.int x, .int y, .int z]]) (ks r) acc (fun z hz => ⟨_, rfl, fun b PT q => jts_one ?_, fun _ acc k' hz hk b => ?_⟩) hz hk⟩
      · walk_at "g"
        exact ⟨rfl, r, y, z, rfl, R, ks_in hy, ks_in hz, _, rfl, q⟩
      · walk_at "g"
        exact ⟨le_sl (n := 3) (by decide), hz, hk⟩
  · rw [eD, List.length_map, List.length_nil, Nat.zero_add]
    exact Nat.le_trans (stp_len R) (by decide)
  rw [List.nil_append, eD]
  refine jss_one (js_ret ?_)
  refine je_lc1 (.tp [3, 4, 5]) [("x", 3), ("y", 4), ("z", 5)] rfl sc_open_triples.nd (by kernel_rfl) (fun b => pg_tup rfl (pgs_cons (pg_name (i := 3) sc_open_triples.nd rfl (Or.inl rfl)) (pgs_cons (pg_name (i := 4) sc_open_triples.nd rfl (Or.inl rfl)) (pgs_cons (pg_name (i := 5) sc_open_triples.nd rfl (Or.inl rfl)) pgs_nil)))) ?_
  walk_at "i"
  walk_at "g"
  refine ⟨_, rfl, lpp_filt triD (fun t => !st r t.1 t.2.2) triD (stp r) rfl (fun t ht => ⟨_, rfl, fun b PT q => ?_, fun _ b PP q => ?_⟩) (le_sl ?_) h⟩
  · obtain ⟨h1, h2, h3⟩ := hin (x := t.1) (y := t.2.1) (z := t.2.2) ht
    walk_at "g"
    exact ⟨rfl, r, t.1, t.2.2, rfl, R, h1, h3, _, rfl, q⟩
  · walk_at "g"
    exact ⟨le_sl (n := 3) (by decide), q⟩
  · exact Nat.le_trans (List.length_filter_le _ _) (Nat.le_trans (stp_len R) (by decide))
/-! has_classes -/
def hcl (r : Mat) : Bool := (osi r).isEmpty && (otr r).isEmpty
theorem fits_tups {xs : List D} (h : ∀ d ∈ xs, ∃ ns : List Int, d = .tup (intsD ns)) : Fits 2 (.lst xs) := fits_lst fun d hd => by
  obtain ⟨ns, rfl⟩ := h d hd
  refine fits_tup fun d hd => ?_
  obtain ⟨i, _, rfl⟩ := List.mem_map.mp hd
  exact fits_int i
theorem osi_fits (r : Mat) : Fits 2 (.lst (osi r)) := fits_tups fun d hd => by
  unfold osi at hd
  simp only [List.mem_flatMap, List.mem_singleton] at hd
  obtain ⟨x, _, y, _, rfl⟩ := hd
  exact ⟨[x, y], rfl⟩
theorem otr_fits (r : Mat) : Fits 2 (.lst (otr r)) := fits_tups fun d hd => by
  obtain ⟨t, _, rfl⟩ := List.mem_map.mp hd
  exact ⟨[t.1, t.2.1, t.2.2], rfl⟩
abbrev s_has_classes : Stmt := topS 17
theorem sc_has_classes : FnScope ["relation"] ["relation"] (defScope s_has_classes) := ⟨rfl, rfl, rfl, by decide +kernel, rfl, by decide +kernel, by decide +kernel⟩
def sp_has_classes : DSpec := fun ds S P _ => ∃ r, ds = [relD r] ∧ Rel r ∧ P (.bl (hcl r)) S
theorem g_has_classes (G1 : GF P w K mg base 2 "one_sided_in" ["relation"] sp_one_sided_in) (G2 : GF P w K mg base 2 "open_triples" ["relation"] sp_open_triples) (dd : Df K mg "has_classes" s_has_classes) : GF P w K mg base 3 "has_classes" ["relation"] sp_has_classes := by
  refine gf_of dd sc_has_classes (fun _ _ _ _ _ _ us hl => match us, hl with | [_], _ => rfl) fun f cdv A outer s H E ds S PP EE hr hgd hl h => ?_
  obtain ⟨r, rfl, R, h⟩ := h
  unfold hcl at h
  refine jss_one (js_ret ?_)
  walk_at "g"
  refine ⟨rfl, r, rfl, R, ?_⟩
  walk_at "g"
  refine ⟨le_sl (n := 0) (by decide), ?_⟩
  refine EqW_nil (osi_fits r) (by decide) ⟨_, rfl, fun e => ?_, fun e => ?_⟩
  · walk_at "g"
    refine ⟨rfl, r, rfl, R, ?_⟩
    walk_at "g"
    refine ⟨le_sl (n := 0) (by decide), ?_⟩
    refine EqW_nil (otr_fits r) (by decide) ?_
    rw [e, Bool.true_and] at h
    exact h
  · rw [e, Bool.false_and] at h
    exact h
end
end O
namespace O
open PySem PySem.Spec PyProof.Rows L2 J
local macro_rules | `(tactic| walk_at "vis") => `(tactic| first | exact Or.inl rfl | exact Or.inr (Or.inl rfl) | exact Or.inr (Or.inr rfl))
local macro_rules | `(tactic| walk_at "loc") => `(tactic| first | exact Or.inl rfl | exact Or.inr rfl)
local macro_rules | `(tactic| walk_at "hu") => `(tactic| exact Room.units (by assumption))
local macro_rules | `(tactic| walk_at "v") => `(tactic| first
  | refine je_var (i := 0) rfl (by walk_at "vis") rfl ?_
  | refine je_var (i := 1) rfl (by walk_at "vis") rfl ?_
  | refine je_var (i := 2) rfl (by walk_at "vis") rfl ?_
  | refine je_var (i := 3) rfl (by walk_at "vis") rfl ?_
  | refine je_var (i := 4) rfl (by walk_at "vis") rfl ?_
  | refine je_var (i := 5) rfl (by walk_at "vis") rfl ?_
  | refine je_var (i := 6) rfl (by walk_at "vis") rfl ?_
  | refine je_var (i := 7) rfl (by walk_at "vis") rfl ?_
  | refine je_var (i := 8) rfl (by walk_at "vis") rfl ?_
  | refine je_var (i := 9) rfl (by walk_at "vis") rfl ?_
  | refine je_var (i := 10) rfl (by walk_at "vis") rfl ?_
  | refine je_var (i := 11) rfl (by walk_at "vis") rfl ?_)
local macro_rules | `(tactic| walk_at "e") => `(tactic| first
  | with_reducible refine je_int ?_
  | with_reducible refine je_non ?_
  | with_reducible refine je_bl ?_
  | with_reducible refine je_str ?_
  | (with_reducible refine sh_name ?_); first | walk_at "v" | refine je_ty (by rfl) (Bl.int (by assumption)) bb_int ?_ | refine je_ty (by rfl) (Bl.bool (by assumption)) bb_bool ?_ | refine je_ty (by rfl) (Bl.list (by assumption)) bb_list ?_
  | (with_reducible refine sh_cons ?_); refine ja_cons ?_
  | with_reducible refine ja_nil ?_
  | with_reducible refine je_add ?_
  | with_reducible refine je_sub ?_
  | with_reducible refine je_mulI ?_
  | with_reducible refine je_mod ?_
  | with_reducible refine je_fdiv ?_
  | with_reducible refine je_powX ?_
  | (with_reducible refine je_eq ?_ ?_); walk_at "hu"
  | (with_reducible refine je_ne ?_ ?_); walk_at "hu"
  | with_reducible refine je_lt ?_
  | with_reducible refine je_le ?_
  | with_reducible refine je_gt ?_
  | with_reducible refine je_ge ?_
  | with_reducible refine je_isN ?_
  | with_reducible refine je_notN ?_
  | (with_reducible refine je_in ?_ ?_); rfl
  | (with_reducible refine je_nin ?_ ?_); rfl
  | (with_reducible refine je_chain ?_ ?_ ?_); first | exact op_le | exact op_lt | exact op_ge | exact op_gt; first | exact op_le | exact op_lt | exact op_ge | exact op_gt
  | with_reducible refine je_one ?_
  | with_reducible refine je_and ?_
  | with_reducible refine je_or ?_
  | with_reducible refine je_not ?_
  | with_reducible refine je_if ?_
  | with_reducible refine je_slice ?_
  | with_reducible refine jo_none ?_
  | with_reducible refine jo_some ?_
  | (with_reducible refine je_item ?_ ?_); exact (fun _ _ => rfl)
  | with_reducible refine je_lst ?_
  | with_reducible refine je_tup ?_
  | (with_reducible refine sh_callx "len" ?_); refine je_len (by rfl) (Bl.len (by assumption)) ?_
  | (with_reducible refine sh_callx "int" ?_); refine je_int1 (by rfl) (Bl.int (by assumption)) ?_
  | (with_reducible refine sh_callx "isinstance" ?_); refine je_isi (by rfl) (Bl.isinstance (by assumption)) ?_
  | (with_reducible refine sh_callx "all" ?_); refine je_all rfl (by rfl) (Bl.all (by assumption)) ?_
  | (with_reducible refine sh_callx "any" ?_); refine je_any rfl (by rfl) (Bl.any (by assumption)) ?_
  | (with_reducible refine sh_callx "abs" ?_); refine je_abs (by rfl) (Bl.abs (by assumption)) ?_
  | (with_reducible refine sh_callx "sorted" ?_); refine je_sorted (by rfl) (Bl.sorted (by assumption)) ?_
  | (with_reducible refine sh_callx "repr" ?_); refine je_repr (by assumption) (Room.units (by assumption)) (by rfl) (Bl.repr (by assumption)) ?_
  | (with_reducible refine sh_lr ?_); refine je_listR rfl (by rfl) (Bl.list (by assumption)) (by rfl) (Bl.range (by assumption)) ?_
  | (with_reducible refine sh_callx "list" ?_); refine je_list (by rfl) (Bl.list (by assumption)) ?_
  | (with_reducible refine sh_two "max" ?_); refine je_max2 rfl (by rfl) (Bl.max (by assumption)) ?_
  | (with_reducible refine sh_callx "max" ?_); refine je_maxL rfl (by rfl) (Bl.max (by assumption)) ?_
  | (with_reducible refine sh_two "min" ?_); refine je_min2 rfl (by rfl) (Bl.min (by assumption)) ?_
  | (with_reducible refine sh_call ?_); refine je_call (by assumption) (Room.mono (by assumption) (by decide)) (by assumption) (by rfl) ?_)
local macro_rules | `(tactic| walk_at "t") => `(tactic| first
  | with_reducible refine jt_w (jw_and ?_)
  | with_reducible refine jt_w (jw_or ?_)
  | with_reducible refine jw_and ?_
  | with_reducible refine jw_or ?_
  | with_reducible refine jw_and1 ?_
  | with_reducible refine jw_or1 ?_
  | with_reducible refine jt_not ?_
  | (with_reducible refine jt_eq ?_ ?_); walk_at "hu"
  | (with_reducible refine jt_ne ?_ ?_); walk_at "hu"
  | with_reducible refine jt_lt ?_
  | with_reducible refine jt_le ?_
  | with_reducible refine jt_gt ?_
  | with_reducible refine jt_ge ?_
  | with_reducible refine jt_isN ?_
  | with_reducible refine jt_notN ?_
  | (with_reducible refine jt_in ?_ ?_); rfl
  | (with_reducible refine jt_nin ?_ ?_); rfl
  | (with_reducible refine jt_chain2 ?_ ?_ ?_); first | exact op_le | exact op_lt | exact op_ge | exact op_gt; first | exact op_le | exact op_lt | exact op_ge | exact op_gt
  | (with_reducible refine sh_t ?_); refine jt_val ?_)
local macro_rules | `(tactic| walk_at "d") => `(tactic| first
  | with_reducible refine intW_mk ?_
  | with_reducible refine addW_int ?_
  | with_reducible refine lenW_lst ?_
  | with_reducible refine intCW_int ?_
  | with_reducible refine intCW_bl ?_
  | with_reducible refine EqW_int ?_
  | with_reducible refine EqW_ints ?_
  | with_reducible refine inW_ints ?_
  | with_reducible refine okT ?_
  | with_reducible refine okF ?_
  | with_reducible refine orT ?_
  | with_reducible refine orF ?_)
local macro_rules | `(tactic| walk_at "i") => `(tactic| first
  | (with_reducible refine sh_it "range" ?_); refine jit_range1 (by rfl) (Bl.range (by assumption)) ?_
  | (with_reducible refine sh_it "enumerate" ?_); refine jit_enum (by rfl) (Bl.enumerate (by assumption)) ?_
  | (with_reducible refine sh_it "zip" ?_); refine jit_zip (by rfl) (Bl.zip (by assumption)) ?_
  | refine jit_list ?_)
local macro_rules | `(tactic| walk_at "g") => `(tactic| repeat (first | walk_at "e" | walk_at "t" | walk_at "d"))
abbrev dc (a m : Int) (b : Bool) : Cell := .lst [.int a, .int m, .bl b]
section
variable {P : Program} {w : World} {K : PySem.W.Frag} {mg : Str → Option Value} {base : Heap}
abbrev s_draws : Stmt := topS 20
theorem sc_draws : FnScope ["_law_cell"] ["_law_cell"] (defScope s_draws) := ⟨rfl, rfl, rfl, by decide +kernel, rfl, by decide +kernel, by decide +kernel⟩
def sp_draws : DSpec := fun ds S P _ => ∃ c : Int, ds = [.int c] ∧ ∀ a b, 0 ≤ a → P (.ptr S.length) (S ++ [dc a 0 b])
theorem g_draws (T : Bl mg) (dd : Df K mg "_law_draws" s_draws) : GF P w K mg base 1 "_law_draws" ["_law_cell"] sp_draws := by
  refine gf_of dd sc_draws (fun _ _ _ _ _ _ us hl => match us, hl with | [_], _ => rfl) fun f cdv A outer s H E ds S PP EE hr hgd hl h => ?_
  obtain ⟨c, rfl, h⟩ := h
  refine jss_one (js_ret ?_)
  refine je_lstP ?_
  walk_at "g"
  refine ⟨⟨by decide, by decide +kernel⟩, ?_⟩
  walk_at "g"
  refine ⟨⟨by decide, by decide +kernel⟩, ?_⟩
  walk_at "g"
  refine ⟨⟨by decide, by decide +kernel⟩, ?_⟩
  walk_at "g"
  refine ⟨by decide +kernel, ?_⟩
  walk_at "g"
  refine ⟨⟨by decide, by decide +kernel⟩, ?_⟩
  walk_at "g"
  exact ⟨le_sl (n := 3) (by decide), h _ _ (Int.emod_nonneg _ (by decide +kernel))⟩
abbrev s_next : Stmt := topS 21
theorem sc_next : FnScope ["_law_draws_here", "_law_k", "_law_number"] ["_law_draws_here"] (defScope s_next) := ⟨rfl, rfl, rfl, by decide +kernel, rfl, by decide +kernel, by decide +kernel⟩
def sp_next : DSpec := fun ds S P _ => ∃ k a m b, ds = [.ptr k] ∧ S[k]? = some (dc a m b) ∧ 0 ≤ a ∧ 0 ≤ m ∧ m ≤ 1000000000 ∧ ∀ v a', 0 ≤ v → 0 ≤ a' → P (.int v) (S.set k (dc a' (m + 1) b))
theorem set_at {S : Store} {k : Nat} {c c' : Cell} (h : S[k]? = some c) : (S.set k c')[k]? = some c' := List.getElem?_set_self (List.getElem?_eq_some_iff.mp h).1
theorem g_next (T : Bl mg) (dd : Df K mg "_law_next" s_next) : GF P w K mg base 1 "_law_next" ["_law_draws_here"] sp_next := by
  refine gf_of dd sc_next (fun _ _ _ _ _ _ us hl => match us, hl with | [_], _ => rfl) fun f cdv A outer s H E ds S PP EE hr hgd hl h => ?_
  obtain ⟨k, a, m, b, rfl, hs, ha, hm, hM, h⟩ := h
  refine jss_cons (js_item ?_)
  walk_at "g"
  refine ixW_ptr hs (d := .int m) rfl ?_
  walk_at "g"
  refine ⟨k, 1, _, 1, rfl, rfl, hs, rfl, ?_⟩
  have hs1 : (S.set k (dc a (m + 1) b))[k]? = some (dc a (m + 1) b) := set_at hs
  refine jss_cons (js_set (i := 1) sc_next.nd rfl (by walk_at "loc") ?_)
  walk_at "g"
  refine ixW_ptr hs1 (d := .int (m + 1)) rfl ?_
  refine jss_cons (js_if ?_)
  walk_at "g"
  refine ixW_ptr hs1 (d := .bl b) rfl ⟨_, rfl, fun e => ?_, fun e => ?_⟩
  · refine jss_cons (js_set (i := 2) sc_next.nd rfl (by walk_at "loc") ?_)
    walk_at "g"
    refine ixW_ptr hs1 (d := .int a) rfl ?_
    walk_at "g"
    refine ⟨⟨by decide, by decide +kernel⟩, ?_⟩
    walk_at "g"
    refine ⟨by decide +kernel, ?_⟩
    refine jss_cons (js_item ?_)
    walk_at "g"
    refine ixW_ptr hs1 (d := .int a) rfl ?_
    walk_at "g"
    refine ⟨⟨by decide, by decide +kernel⟩, ?_⟩
    walk_at "g"
    refine ⟨⟨by decide +kernel, by decide +kernel⟩, ?_⟩
    walk_at "g"
    refine ⟨k, 0, _, 0, rfl, rfl, hs1, rfl, ?_⟩
    refine jss_one (js_ret ?_)
    walk_at "g"
    rw [List.set_set]
    exact h _ _ (Int.emod_nonneg _ (by decide +kernel)) (Int.ediv_nonneg ha (by decide +kernel))
  · refine jss_nil ?_
    refine jss_cons (js_set (i := 2) sc_next.nd rfl (by walk_at "loc") ?_)
    walk_at "g"
    refine ixW_ptr hs1 (d := .int a) rfl ?_
    walk_at "g"
    refine ⟨by decide, ?_⟩
    walk_at "g"
    refine ⟨.inl ⟨by omega, by omega⟩, ?_⟩
    walk_at "g"
    refine ⟨.inr ⟨by decide, by decide⟩, ?_⟩
    walk_at "g"
    refine ⟨.inr ⟨by decide, by decide⟩, ?_⟩
    walk_at "g"
    refine ⟨by decide, ?_⟩
    generalize hx : (a % 1000003 + (m + 1) * (m + 1) * 7919 + (m + 1)) * 48271 % 2147483629 = x
    have hx0 : 0 ≤ x := by rw [← hx]; exact Int.emod_nonneg _ (by decide)
    have hx1 : x < 2147483629 := by rw [← hx]; exact Int.emod_lt_of_pos _ (by decide)
    refine jss_cons (js_set (i := 2) sc_next.nd rfl (by walk_at "loc") ?_)
    walk_at "g"
    refine ⟨.inl ⟨by omega, by omega⟩, ?_⟩
    walk_at "g"
    refine ⟨by decide, ?_⟩
    generalize hy : x * x % 2147483587 = y
    have hy0 : 0 ≤ y := by rw [← hy]; exact Int.emod_nonneg _ (by decide)
    have hy1 : y < 2147483587 := by rw [← hy]; exact Int.emod_lt_of_pos _ (by decide)
    refine jss_one (js_ret ?_)
    walk_at "g"
    refine ⟨.inl ⟨by omega, by omega⟩, ?_⟩
    walk_at "g"
    refine ⟨by decide, ?_⟩
    walk_at "g"
    refine ⟨⟨by decide, by decide⟩, ?_⟩
    exact h _ _ (Int.ediv_nonneg (Int.emod_nonneg _ (by decide)) (by decide)) ha
end
end O
namespace O
open PySem PySem.Spec PyProof.Rows L2 J
local macro_rules | `(tactic| walk_at "vis") => `(tactic| first | exact Or.inl rfl | exact Or.inr (Or.inl rfl) | exact Or.inr (Or.inr rfl))
local macro_rules | `(tactic| walk_at "loc") => `(tactic| first | exact Or.inl rfl | exact Or.inr rfl)
local macro_rules | `(tactic| walk_at "hu") => `(tactic| exact Room.units (by assumption))
local macro_rules | `(tactic| walk_at "v") => `(tactic| first
  | refine je_var (i := 0) rfl (by walk_at "vis") rfl ?_
  | refine je_var (i := 1) rfl (by walk_at "vis") rfl ?_
  | refine je_var (i := 2) rfl (by walk_at "vis") rfl ?_
  | refine je_var (i := 3) rfl (by walk_at "vis") rfl ?_
  | refine je_var (i := 4) rfl (by walk_at "vis") rfl ?_
  | refine je_var (i := 5) rfl (by walk_at "vis") rfl ?_
  | refine je_var (i := 6) rfl (by walk_at "vis") rfl ?_
  | refine je_var (i := 7) rfl (by walk_at "vis") rfl ?_
  | refine je_var (i := 8) rfl (by walk_at "vis") rfl ?_
  | refine je_var (i := 9) rfl (by walk_at "vis") rfl ?_
  | refine je_var (i := 10) rfl (by walk_at "vis") rfl ?_
  | refine je_var (i := 11) rfl (by walk_at "vis") rfl ?_)
local macro_rules | `(tactic| walk_at "e") => `(tactic| first
  | with_reducible refine je_int ?_
  | with_reducible refine je_non ?_
  | with_reducible refine je_bl ?_
  | with_reducible refine je_str ?_
  | (with_reducible refine sh_name ?_); first | walk_at "v" | refine je_ty (by rfl) (Bl.int (by assumption)) bb_int ?_ | refine je_ty (by rfl) (Bl.bool (by assumption)) bb_bool ?_ | refine je_ty (by rfl) (Bl.list (by assumption)) bb_list ?_
  | (with_reducible refine sh_cons ?_); refine ja_cons ?_
  | with_reducible refine ja_nil ?_
  | with_reducible refine je_add ?_
  | with_reducible refine je_sub ?_
  | with_reducible refine je_mulI ?_
  | with_reducible refine je_mod ?_
  | with_reducible refine je_fdiv ?_
  | with_reducible refine je_powX ?_
  | (with_reducible refine je_eq ?_ ?_); walk_at "hu"
  | (with_reducible refine je_ne ?_ ?_); walk_at "hu"
  | with_reducible refine je_lt ?_
  | with_reducible refine je_le ?_
  | with_reducible refine je_gt ?_
  | with_reducible refine je_ge ?_
  | with_reducible refine je_isN ?_
  | with_reducible refine je_notN ?_
  | (with_reducible refine je_in ?_ ?_); rfl
  | (with_reducible refine je_nin ?_ ?_); rfl
  | (with_reducible refine je_chain ?_ ?_ ?_); first | exact op_le | exact op_lt | exact op_ge | exact op_gt; first | exact op_le | exact op_lt | exact op_ge | exact op_gt
  | with_reducible refine je_one ?_
  | with_reducible refine je_and ?_
  | with_reducible refine je_or ?_
  | with_reducible refine je_not ?_
  | with_reducible refine je_if ?_
  | with_reducible refine je_slice ?_
  | with_reducible refine jo_none ?_
  | with_reducible refine jo_some ?_
  | (with_reducible refine je_item ?_ ?_); exact (fun _ _ => rfl)
  | with_reducible refine je_lst ?_
  | with_reducible refine je_tup ?_
  | (with_reducible refine sh_callx "len" ?_); refine je_len (by rfl) (Bl.len (by assumption)) ?_
  | (with_reducible refine sh_callx "int" ?_); refine je_int1 (by rfl) (Bl.int (by assumption)) ?_
  | (with_reducible refine sh_callx "isinstance" ?_); refine je_isi (by rfl) (Bl.isinstance (by assumption)) ?_
  | (with_reducible refine sh_callx "all" ?_); refine je_all rfl (by rfl) (Bl.all (by assumption)) ?_
  | (with_reducible refine sh_callx "any" ?_); refine je_any rfl (by rfl) (Bl.any (by assumption)) ?_
  | (with_reducible refine sh_callx "abs" ?_); refine je_abs (by rfl) (Bl.abs (by assumption)) ?_
  | (with_reducible refine sh_callx "sorted" ?_); refine je_sorted (by rfl) (Bl.sorted (by assumption)) ?_
  | (with_reducible refine sh_callx "repr" ?_); refine je_repr (by assumption) (Room.units (by assumption)) (by rfl) (Bl.repr (by assumption)) ?_
  | (with_reducible refine sh_lr ?_); refine je_listR rfl (by rfl) (Bl.list (by assumption)) (by rfl) (Bl.range (by assumption)) ?_
  | (with_reducible refine sh_callx "list" ?_); refine je_list (by rfl) (Bl.list (by assumption)) ?_
  | (with_reducible refine sh_two "max" ?_); refine je_max2 rfl (by rfl) (Bl.max (by assumption)) ?_
  | (with_reducible refine sh_callx "max" ?_); refine je_maxL rfl (by rfl) (Bl.max (by assumption)) ?_
  | (with_reducible refine sh_two "min" ?_); refine je_min2 rfl (by rfl) (Bl.min (by assumption)) ?_
  | (with_reducible refine sh_call ?_); refine je_call (by assumption) (Room.mono (by assumption) (by decide)) (by assumption) (by rfl) ?_)
local macro_rules | `(tactic| walk_at "t") => `(tactic| first
  | with_reducible refine jt_w (jw_and ?_)
  | with_reducible refine jt_w (jw_or ?_)
  | with_reducible refine jw_and ?_
  | with_reducible refine jw_or ?_
  | with_reducible refine jw_and1 ?_
  | with_reducible refine jw_or1 ?_
  | with_reducible refine jt_not ?_
  | (with_reducible refine jt_eq ?_ ?_); walk_at "hu"
  | (with_reducible refine jt_ne ?_ ?_); walk_at "hu"
  | with_reducible refine jt_lt ?_
  | with_reducible refine jt_le ?_
  | with_reducible refine jt_gt ?_
  | with_reducible refine jt_ge ?_
  | with_reducible refine jt_isN ?_
  | with_reducible refine jt_notN ?_
  | (with_reducible refine jt_in ?_ ?_); rfl
  | (with_reducible refine jt_nin ?_ ?_); rfl
  | (with_reducible refine jt_chain2 ?_ ?_ ?_); first | exact op_le | exact op_lt | exact op_ge | exact op_gt; first | exact op_le | exact op_lt | exact op_ge | exact op_gt
  | (with_reducible refine sh_t ?_); refine jt_val ?_)
local macro_rules | `(tactic| walk_at "d") => `(tactic| first
  | with_reducible refine intW_mk ?_
  | with_reducible refine addW_int ?_
  | with_reducible refine lenW_lst ?_
  | with_reducible refine intCW_int ?_
  | with_reducible refine intCW_bl ?_
  | with_reducible refine EqW_int ?_
  | with_reducible refine EqW_ints ?_
  | with_reducible refine inW_ints ?_
  | with_reducible refine okT ?_
  | with_reducible refine okF ?_
  | with_reducible refine orT ?_
  | with_reducible refine orF ?_)
local macro_rules | `(tactic| walk_at "i") => `(tactic| first
  | (with_reducible refine sh_it "range" ?_); refine jit_range1 (by rfl) (Bl.range (by assumption)) ?_
  | (with_reducible refine sh_it "enumerate" ?_); refine jit_enum (by rfl) (Bl.enumerate (by assumption)) ?_
  | (with_reducible refine sh_it "zip" ?_); refine jit_zip (by rfl) (Bl.zip (by assumption)) ?_
  | refine jit_list ?_)
local macro_rules | `(tactic| walk_at "g") => `(tactic| repeat (first | walk_at "e" | walk_at "t" | walk_at "d"))
theorem pl_rows {k : Nat} (rs : Mat) : plA k (rs.map rowD) := plA_mem fun d hd => by
  obtain ⟨row, _, rfl⟩ := List.mem_map.mp hd
  unfold D.pl
  exact pl_ints row
theorem pl_rel {k : Nat} (r : Mat) : D.pl k (relD r) := by
  unfold D.pl
  exact pl_rows r
def mx (i j : Int) : Int := if j > i then j else i
def cstep (nrow : List Int) (near : Nat) (row : List Int) : List Int := (row.zip nrow).map fun p => mx p.1 (row.getD near 0 * p.2)
def cmat (r : Mat) (near : Nat) : Mat := r.map (cstep (r.getD near []) near)
theorem mx_bit {a b c : Int} (ha : a = 0 ∨ a = 1) (hb : b = 0 ∨ b = 1) (hc : c = 0 ∨ c = 1) : mx a (b * c) = 0 ∨ mx a (b * c) = 1 := by
  rcases ha with rfl | rfl <;> rcases hb with rfl | rfl <;> rcases hc with rfl | rfl <;> decide
theorem mx_one {b c : Int} (hb : b = 0 ∨ b = 1) (hc : c = 0 ∨ c = 1) : mx 1 (b * c) = 1 := by
  rcases hb with rfl | rfl <;> rcases hc with rfl | rfl <;> decide
theorem cmat_rel {r : Mat} (R : Rel r) {near : Nat} (hn : near < r.length) : Rel (cmat r near) := by
  have hm : r.getD near [] ∈ r := List.mem_of_getElem? (rel_row hn)
  have hlen : (cmat r near).length = r.length := by unfold cmat; rw [List.length_map]
  refine ⟨fun row' h => ?_, fun row' h x hx => ?_, fun i row' h => ?_, by rw [hlen]; exact R.few⟩
  · obtain ⟨row, hr, rfl⟩ := List.mem_map.mp h
    rw [hlen]
    unfold cstep
    rw [List.length_map, List.length_zip, R.sq _ hr, R.sq _ hm, Nat.min_self]
  · obtain ⟨row, hr, rfl⟩ := List.mem_map.mp h
    obtain ⟨p, hp, rfl⟩ := List.mem_map.mp hx
    have := List.of_mem_zip (a := p.1) (b := p.2) hp
    exact mx_bit (R.bit _ hr _ this.1) (bit_getD (R.bit _ hr) _) (R.bit _ hm _ this.2)
  · unfold cmat at h
    rw [List.getElem?_map] at h
    cases e : r[i]? with
    | none => rw [e] at h; cases h
    | some row =>
      rw [e] at h; cases h
      have hr := List.mem_of_getElem? e
      have hd := R.dia _ _ e
      have hi : i < r.length := (List.getElem?_eq_some_iff.mp e).1
      unfold cstep
      rw [List.getElem?_map]
      have hz : (row.zip (r.getD near []))[i]? = some (1, (r.getD near []).getD i 0) := by
        rw [List.getElem?_zip_eq_some]
        refine ⟨hd, ?_⟩
        have hl := R.sq _ hm
        generalize r.getD near [] = q at hl ⊢
        rw [List.getD_eq_getElem?_getD, List.getElem?_eq_getElem (by rw [hl]; exact hi)]; rfl
      rw [hz, Option.map_some, mx_one (bit_getD (R.bit _ hr) _) (bit_getD (R.bit _ hm) _)]
theorem zip_map2 (a b : List Int) : (intsD a).zipWith (fun d e => D.tup [d, e]) (intsD b) = (a.zip b).map fun p => D.tup [.int p.1, .int p.2] := by
  unfold intsD
  rw [List.zipWith_map, List.zip_eq_zipWith, List.map_zipWith]
section
variable {P : Program} {w : World} {K : PySem.W.Frag} {mg : Str → Option Value} {base : Heap}
abbrev s_closed : Stmt := topS 22
theorem sc_closed : FnScope ["_law_told", "_law_near", "_law_rows", "_law_answers", "_law_both", "_law_one", "_law_other"] ["_law_told"] (defScope s_closed) := ⟨rfl, rfl, rfl, by decide +kernel, rfl, by decide +kernel, by decide +kernel⟩
def sp_closed : DSpec := fun ds S P _ => ∃ r, ds = [relD r] ∧ Rel r ∧ ∀ r', Rel r' → P (relD r') S
theorem g_closed (T : Bl mg) (dd : Df K mg "_law_closed" s_closed) : GF P w K mg base 1 "_law_closed" ["_law_told"] sp_closed := by
  refine gf_of dd sc_closed (fun _ _ _ _ _ _ us hl => match us, hl with | [_], _ => rfl) fun f cdv A outer s H E ds S PP EE hr hgd hl h => ?_
  obtain ⟨r, rfl, R, h⟩ := h
  have hf := R.few
  refine jss_pl fun hpl => ?_
  refine jss_cons (js_forT (.nm 1) passes_own rfl (pg_name (i := 1) sc_closed.nd rfl (by walk_at "loc")) ?_)
  walk_at "i"
  walk_at "g"
  refine ⟨_, rfl, by omega, by rw [List.length_map]; omega, ?_⟩
  rw [List.length_map, Int.toNat_natCast, irow_keys]
  refine loop_inv (Iv := fun items ρ S' => ∃ (js : List Int) (q : Mat) (o1 o2 o3 o4 o5 o6 : Option D), items = intsD js ∧ (∀ x ∈ js, In q x) ∧ Rel q ∧ S' = S ∧ ρ = [some (relD q), o1, o2, o3, o4, o5, o6]) ?_ ?_ ⟨_, r, none, none, none, none, none, none, rfl, fun x hx => mem_keysI.mp hx, R, rfl, rfl⟩
  · rintro d ds ρ S' ⟨js, q, o1, o2, o3, o4, o5, o6, e1, hjs, Q, rfl, rfl⟩
    cases js with
    | nil => cases e1
    | cons j js =>
      cases e1
      have hj := hjs j (List.mem_cons_self ..)
      have hq := Q.few
      refine ⟨_, rfl, jss_cons (js_set (i := 2) sc_closed.nd rfl (by walk_at "loc") ?_)⟩
      refine je_lstP ?_
      walk_at "g"
      refine ⟨le_sl (n := 0) (by decide), ?_⟩
      refine jss_cons (js_forT (.nm 3) passes_own rfl (pg_name (i := 3) sc_closed.nd rfl (by walk_at "loc")) ?_)
      walk_at "i"
      walk_at "g"
      refine ⟨_, rfl, ?_⟩
      refine loop_inv (Iv := fun items ρ T' => ∃ (rows acc : Mat) (o3 o4 o5 o6 : Option D), items = rows.map rowD ∧ (∀ x ∈ rows, x ∈ q) ∧ acc ++ rows.map (cstep (q.getD j.toNat []) j.toNat) = cmat q j.toNat ∧ acc.length + rows.length ≤ 10 ∧ T' = S' ++ [.lst (acc.map rowD)] ∧ ρ = [some (relD q), some (.int j), some (.ptr S'.length), o3, o4, o5, o6]) ?_ ?_ ⟨q, [], _, _, _, _, rfl, fun x hx => hx, rfl, by rw [List.length_nil]; omega, rfl, rfl⟩
      · rintro d ds ρ T' ⟨rows, acc, o3, o4, o5, o6, e1, hrw, e2, hz, rfl, rfl⟩
        cases rows with
        | nil => cases e1
        | cons row rows =>
          cases e1
          rw [List.length_cons] at hz
          have hrow := hrw row (List.mem_cons_self ..)
          have hl1 := Q.sq _ hrow
          refine ⟨_, rfl, jss_cons (js_lc1 (i := 4) rfl rfl (.tp [5, 6]) [("_law_one", 5), ("_law_other", 6)] rfl sc_closed.nd (by kernel_rfl) (fun b => pg_tup rfl (pgs_cons (pg_name (i := 5) sc_closed.nd rfl (Or.inl rfl)) (pgs_cons (pg_name (i := 6) sc_closed.nd rfl (Or.inl rfl)) pgs_nil))) ?_)⟩
          walk_at "i"
          walk_at "g"
          refine ixW_lst (rel_at hj) ?_
          walk_at "g"
          refine ⟨_, _, rfl, ?_⟩
          rw [zip_map2]
          refine lpp_map _ (fun p : Int × Int => D.int (mx p.1 (row.getD j.toNat 0 * p.2))) _ rfl (fun p hp => ⟨_, rfl, fun b PP q' => ?_⟩) (le_sl ?_) ?_
          · have hat : atI (intsD row) j = some (.int (row.getD j.toNat 0)) := by
              refine atI_ints (atI_to hj.1 ?_)
              rw [List.getD_eq_getElem?_getD, List.getElem?_eq_getElem (by rw [hl1]; exact hj.lt)]; rfl
            walk_at "g"
            refine ixW_lst hat ?_
            walk_at "g"
            have hb := bit_getD (Q.bit _ hrow) j.toNat
            refine ⟨.inl (by rcases hb with e | e <;> rw [e] <;> decide), ?_⟩
            walk_at "g"
            exact ⟨_, _, rfl, q'⟩
          · rw [List.length_zip]; omega
          have ei : ((row.zip (q.getD j.toNat [])).map fun p : Int × Int => D.int (mx p.1 (row.getD j.toNat 0 * p.2))) = intsD (cstep (q.getD j.toNat []) j.toNat row) := by
            unfold cstep intsD
            rw [List.map_map]; rfl
          rw [ei]
          refine jss_one (js_expr (je_append ?_))
          walk_at "g"
          refine ⟨_, _, rfl, last_at, ?_⟩
          walk_at "g"
          refine ⟨_, _, rfl, last_at, ?_, ?_⟩
          · rw [List.length_map]
            exact le_sl (by omega)
          · rw [last_set]
            refine ⟨rows, acc ++ [cstep (q.getD j.toNat []) j.toNat row], _, _, _, _, rfl, fun x hx => hrw x (List.mem_cons_of_mem _ hx), ?_, ?_, ?_, rfl⟩
            · rw [List.append_assoc]; exact e2
            · rw [List.length_append, List.length_cons, List.length_nil]; omega
            · rw [List.map_append]; rfl
      · rintro ρ T' ⟨rows, acc, o3, o4, o5, o6, e1, hrw, e2, hz, rfl, rfl⟩
        cases rows with
        | cons x hs' => cases e1
        | nil =>
          rw [List.map_nil, List.append_nil] at e2
          subst e2
          refine jss_less [some (relD q), some (.int j), some (.ptr S'.length), none, none, none, none] ⟨rfl, rfl, rfl, trivial⟩ ?_
          refine jss_rest (i := 2) rfl (Nat.le_refl _) (pl_rows _) hpl ⟨pl_rel q, trivial, trivial⟩ ?_
          refine jss_one (js_set (i := 0) sc_closed.nd rfl (by walk_at "loc") ?_)
          walk_at "g"
          refine ⟨_, _, rfl, rfl, ?_⟩
          refine ⟨js, cmat q j.toNat, _, _, _, _, _, _, rfl, fun x hx => ?_, cmat_rel Q hj.lt, rfl, rfl⟩
          have := hjs x (List.mem_cons_of_mem _ hx)
          unfold In cmat
          rw [List.length_map]; exact this
  · rintro ρ S' ⟨js, q, o1, o2, o3, o4, o5, o6, e1, hjs, Q, rfl, rfl⟩
    refine jss_one (js_ret ?_)
    walk_at "g"
    exact h q Q
end
end O
namespace O
open PySem PySem.Spec PyProof.Rows L2 J
local macro_rules | `(tactic| walk_at "vis") => `(tactic| first | exact Or.inl rfl | exact Or.inr (Or.inl rfl) | exact Or.inr (Or.inr rfl))
local macro_rules | `(tactic| walk_at "loc") => `(tactic| first | exact Or.inl rfl | exact Or.inr rfl)
local macro_rules | `(tactic| walk_at "hu") => `(tactic| exact Room.units (by assumption))
local macro_rules | `(tactic| walk_at "v") => `(tactic| first
  | refine je_var (i := 0) rfl (by walk_at "vis") rfl ?_
  | refine je_var (i := 1) rfl (by walk_at "vis") rfl ?_
  | refine je_var (i := 2) rfl (by walk_at "vis") rfl ?_
  | refine je_var (i := 3) rfl (by walk_at "vis") rfl ?_
  | refine je_var (i := 4) rfl (by walk_at "vis") rfl ?_
  | refine je_var (i := 5) rfl (by walk_at "vis") rfl ?_
  | refine je_var (i := 6) rfl (by walk_at "vis") rfl ?_
  | refine je_var (i := 7) rfl (by walk_at "vis") rfl ?_
  | refine je_var (i := 8) rfl (by walk_at "vis") rfl ?_
  | refine je_var (i := 9) rfl (by walk_at "vis") rfl ?_
  | refine je_var (i := 10) rfl (by walk_at "vis") rfl ?_
  | refine je_var (i := 11) rfl (by walk_at "vis") rfl ?_)
local macro_rules | `(tactic| walk_at "e") => `(tactic| first
  | with_reducible refine je_int ?_
  | with_reducible refine je_non ?_
  | with_reducible refine je_bl ?_
  | with_reducible refine je_str ?_
  | (with_reducible refine sh_name ?_); first | walk_at "v" | refine je_ty (by rfl) (Bl.int (by assumption)) bb_int ?_ | refine je_ty (by rfl) (Bl.bool (by assumption)) bb_bool ?_ | refine je_ty (by rfl) (Bl.list (by assumption)) bb_list ?_
  | (with_reducible refine sh_cons ?_); refine ja_cons ?_
  | with_reducible refine ja_nil ?_
  | with_reducible refine je_add ?_
  | with_reducible refine je_sub ?_
  | with_reducible refine je_mulI ?_
  | with_reducible refine je_mod ?_
  | with_reducible refine je_fdiv ?_
  | with_reducible refine je_powX ?_
  | (with_reducible refine je_eq ?_ ?_); walk_at "hu"
  | (with_reducible refine je_ne ?_ ?_); walk_at "hu"
  | with_reducible refine je_lt ?_
  | with_reducible refine je_le ?_
  | with_reducible refine je_gt ?_
  | with_reducible refine je_ge ?_
  | with_reducible refine je_isN ?_
  | with_reducible refine je_notN ?_
  | (with_reducible refine je_in ?_ ?_); rfl
  | (with_reducible refine je_nin ?_ ?_); rfl
  | (with_reducible refine je_chain ?_ ?_ ?_); first | exact op_le | exact op_lt | exact op_ge | exact op_gt; first | exact op_le | exact op_lt | exact op_ge | exact op_gt
  | with_reducible refine je_one ?_
  | with_reducible refine je_and ?_
  | with_reducible refine je_or ?_
  | with_reducible refine je_not ?_
  | with_reducible refine je_if ?_
  | with_reducible refine je_slice ?_
  | with_reducible refine jo_none ?_
  | with_reducible refine jo_some ?_
  | (with_reducible refine je_item ?_ ?_); exact (fun _ _ => rfl)
  | with_reducible refine je_lst ?_
  | with_reducible refine je_tup ?_
  | (with_reducible refine sh_callx "len" ?_); refine je_len (by rfl) (Bl.len (by assumption)) ?_
  | (with_reducible refine sh_callx "int" ?_); refine je_int1 (by rfl) (Bl.int (by assumption)) ?_
  | (with_reducible refine sh_callx "isinstance" ?_); refine je_isi (by rfl) (Bl.isinstance (by assumption)) ?_
  | (with_reducible refine sh_callx "all" ?_); refine je_all rfl (by rfl) (Bl.all (by assumption)) ?_
  | (with_reducible refine sh_callx "any" ?_); refine je_any rfl (by rfl) (Bl.any (by assumption)) ?_
  | (with_reducible refine sh_callx "abs" ?_); refine je_abs (by rfl) (Bl.abs (by assumption)) ?_
  | (with_reducible refine sh_callx "sorted" ?_); refine je_sorted (by rfl) (Bl.sorted (by assumption)) ?_
  | (with_reducible refine sh_callx "repr" ?_); refine je_repr (by assumption) (Room.units (by assumption)) (by rfl) (Bl.repr (by assumption)) ?_
  | (with_reducible refine sh_lr ?_); refine je_listR rfl (by rfl) (Bl.list (by assumption)) (by rfl) (Bl.range (by assumption)) ?_
  | (with_reducible refine sh_callx "list" ?_); refine je_list (by rfl) (Bl.list (by assumption)) ?_
  | (with_reducible refine sh_two "max" ?_); refine je_max2 rfl (by rfl) (Bl.max (by assumption)) ?_
  | (with_reducible refine sh_callx "max" ?_); refine je_maxL rfl (by rfl) (Bl.max (by assumption)) ?_
  | (with_reducible refine sh_two "min" ?_); refine je_min2 rfl (by rfl) (Bl.min (by assumption)) ?_
  | (with_reducible refine sh_call ?_); refine je_call (by assumption) (Room.mono (by assumption) (by decide)) (by assumption) (by rfl) ?_)
local macro_rules | `(tactic| walk_at "t") => `(tactic| first
  | with_reducible refine jt_w (jw_and ?_)
  | with_reducible refine jt_w (jw_or ?_)
  | with_reducible refine jw_and ?_
  | with_reducible refine jw_or ?_
  | with_reducible refine jw_and1 ?_
  | with_reducible refine jw_or1 ?_
  | with_reducible refine jt_not ?_
  | (with_reducible refine jt_eq ?_ ?_); walk_at "hu"
  | (with_reducible refine jt_ne ?_ ?_); walk_at "hu"
  | with_reducible refine jt_lt ?_
  | with_reducible refine jt_le ?_
  | with_reducible refine jt_gt ?_
  | with_reducible refine jt_ge ?_
  | with_reducible refine jt_isN ?_
  | with_reducible refine jt_notN ?_
  | (with_reducible refine jt_in ?_ ?_); rfl
  | (with_reducible refine jt_nin ?_ ?_); rfl
  | (with_reducible refine jt_chain2 ?_ ?_ ?_); first | exact op_le | exact op_lt | exact op_ge | exact op_gt; first | exact op_le | exact op_lt | exact op_ge | exact op_gt
  | (with_reducible refine sh_t ?_); refine jt_val ?_)
local macro_rules | `(tactic| walk_at "d") => `(tactic| first
  | with_reducible refine intW_mk ?_
  | with_reducible refine addW_int ?_
  | with_reducible refine lenW_lst ?_
  | with_reducible refine intCW_int ?_
  | with_reducible refine intCW_bl ?_
  | with_reducible refine EqW_int ?_
  | with_reducible refine EqW_ints ?_
  | with_reducible refine inW_ints ?_
  | with_reducible refine okT ?_
  | with_reducible refine okF ?_
  | with_reducible refine orT ?_
  | with_reducible refine orF ?_)
local macro_rules | `(tactic| walk_at "i") => `(tactic| first
  | (with_reducible refine sh_it "range" ?_); refine jit_range1 (by rfl) (Bl.range (by assumption)) ?_
  | (with_reducible refine sh_it "enumerate" ?_); refine jit_enum (by rfl) (Bl.enumerate (by assumption)) ?_
  | (with_reducible refine sh_it "zip" ?_); refine jit_zip (by rfl) (Bl.zip (by assumption)) ?_
  | refine jit_list ?_)
local macro_rules | `(tactic| walk_at "g") => `(tactic| repeat (first | walk_at "e" | walk_at "t" | walk_at "d"))
abbrev stW (S : Store) (k : Nat) (a m : Int) (b : Bool) : Store := S.set k (dc a m b)
theorem stW_at {S : Store} {k : Nat} {a m : Int} {b : Bool} (h : k < S.length) : (stW S k a m b)[k]? = some (dc a m b) := List.getElem?_set_self h
theorem stW_atc {S : Store} {k : Nat} {a m : Int} {b : Bool} {c : Cell} (h : k < S.length) : (stW S k a m b ++ [c])[k]? = some (dc a m b) := by
  rw [List.getElem?_append_left (by rw [List.length_set]; exact h)]; exact stW_at h
theorem stW_set {S : Store} {k : Nat} {a m a' m' : Int} {b : Bool} : (stW S k a m b).set k (dc a' m' b) = stW S k a' m' b := List.set_set ..
theorem stW_setc {S : Store} {k : Nat} {a m a' m' : Int} {b : Bool} {c : Cell} (h : k < S.length) : (stW S k a m b ++ [c]).set k (dc a' m' b) = stW S k a' m' b ++ [c] := by
  rw [List.set_append_left _ _ (by rw [List.length_set]; exact h), stW_set]
theorem stW_lat {S : Store} {k : Nat} {a m : Int} {b : Bool} {c : Cell} : (stW S k a m b ++ [c])[S.length]? = some c := by
  have := last_at (S := stW S k a m b) (c := c)
  rwa [List.length_set] at this
theorem stW_lset {S : Store} {k : Nat} {a m : Int} {b : Bool} {c c' : Cell} : (stW S k a m b ++ [c]).set S.length c' = stW S k a m b ++ [c'] := by
  have := last_set (S := stW S k a m b) (c := c) (c' := c')
  rwa [List.length_set] at this
theorem stW_pl {S : Store} {k : Nat} {a m : Int} {b : Bool} (h : stPl S.length S) : stPl (stW S k a m b).length (stW S k a m b) := fun c hc => by
  rw [List.length_set]
  rcases List.mem_or_eq_of_mem_set hc with h1 | h1
  · exact h c h1
  · rw [h1]; exact ⟨trivial, trivial, trivial, trivial⟩
theorem stW_id {S : Store} {k : Nat} {a m : Int} {b : Bool} (h : S[k]? = some (dc a m b)) : stW S k a m b = S := by
  obtain ⟨h1, h2⟩ := List.getElem?_eq_some_iff.mp h
  unfold stW
  rw [← h2, List.set_getElem_self]
/-- what a row of draws makes -/
structure RowOk (n : Nat) (i : Nat) (vs : List Int) : Prop where
  bit : ∀ x ∈ vs, x = 0 ∨ x = 1
  one : i < vs.length → vs[i]? = some 1
structure RowsOk (n : Nat) (rows : Mat) : Prop where
  sq : ∀ row ∈ rows, row.length = n
  bit : ∀ row ∈ rows, ∀ x ∈ row, x = 0 ∨ x = 1
  dia : ∀ (i : Nat) row, rows[i]? = some row → row[i]? = some 1
theorem RowsOk.rel {n : Nat} {rows : Mat} (h : RowsOk n rows) (hl : rows.length = n) (hn : n ≤ 10) : Rel rows := ⟨fun row hr => by rw [hl]; exact h.sq row hr, h.bit, h.dia, by rw [hl]; exact hn⟩
theorem RowsOk.add {n : Nat} {rows : Mat} {row : List Int} (h : RowsOk n rows) (hl : row.length = n) (hb : ∀ x ∈ row, x = 0 ∨ x = 1) (hd : row[rows.length]? = some 1) : RowsOk n (rows ++ [row]) := by
  refine ⟨fun r' hr => ?_, fun r' hr => ?_, fun i r' hr => ?_⟩
  · rcases List.mem_append.mp hr with h1 | h1
    · exact h.sq _ h1
    · cases List.mem_singleton.mp h1; exact hl
  · rcases List.mem_append.mp hr with h1 | h1
    · exact h.bit _ h1
    · cases List.mem_singleton.mp h1; exact hb
  · rcases Nat.lt_or_ge i rows.length with h1 | h1
    · rw [List.getElem?_append_left h1] at hr; exact h.dia _ _ hr
    · rw [List.getElem?_append_right h1] at hr
      rcases Nat.eq_or_lt_of_le h1 with h2 | h2
      · rw [← h2, Nat.sub_self] at hr; cases hr; rw [← h2]; exact hd
      · rw [List.getElem?_eq_none (by simp; omega)] at hr; cases hr
/-- a square of yeses and noes by a rule that holds for like and like -/
theorem rel_by {n : Nat} (hn : n ≤ 10) (g : Nat → Nat → Int) (hb : ∀ i j, i < n → j < n → g i j = 0 ∨ g i j = 1) (hd : ∀ i, i < n → g i i = 1) : Rel ((List.range n).map fun i => (List.range n).map fun j => g i j) := by
  have hl : ((List.range n).map fun i => (List.range n).map fun j => g i j).length = n := by simp
  refine ⟨fun row hr => ?_, fun row hr x hx => ?_, fun i row h => ?_, by rw [hl]; exact hn⟩
  · obtain ⟨i, hi, rfl⟩ := List.mem_map.mp hr
    rw [hl]; simp
  · obtain ⟨i, hi, rfl⟩ := List.mem_map.mp hr
    obtain ⟨j, hj, rfl⟩ := List.mem_map.mp hx
    exact hb i j (List.mem_range.mp hi) (List.mem_range.mp hj)
  · rw [List.getElem?_map] at h
    cases e : (List.range n)[i]? with
    | none => rw [e] at h; cases h
    | some j =>
      rw [e] at h; cases h
      obtain ⟨h1, h2⟩ := List.getElem?_eq_some_iff.mp e
      rw [List.getElem_range] at h2
      subst h2
      rw [List.length_range] at h1
      rw [List.getElem?_map, e, Option.map_some, hd i h1]
theorem rel_of {α : Type} (xs : List α) (hn : xs.length ≤ 10) (g : α → α → Int) (hb : ∀ x y, g x y = 0 ∨ g x y = 1) (hd : ∀ x ∈ xs, g x x = 1) : Rel (xs.map fun x => xs.map fun y => g x y) := by
  refine ⟨fun row hr => ?_, fun row hr x hx => ?_, fun i row h => ?_, by rw [List.length_map]; exact hn⟩
  · obtain ⟨i, hi, rfl⟩ := List.mem_map.mp hr
    rw [List.length_map, List.length_map]
  · obtain ⟨i, hi, rfl⟩ := List.mem_map.mp hr
    obtain ⟨j, hj, rfl⟩ := List.mem_map.mp hx
    exact hb i j
  · rw [List.getElem?_map] at h
    cases e : xs[i]? with
    | none => rw [e] at h; cases h
    | some j =>
      rw [e] at h; cases h
      rw [List.getElem?_map, e, Option.map_some, hd j (List.mem_of_getElem? e)]
theorem drop_cons {n i : Nat} {j : Int} {js : List Int} (h : j :: js = (keysI n).drop i) : j = i ∧ js = (keysI n).drop (i + 1) ∧ i < n := by
  have hi : i < n := by
    rcases Nat.lt_or_ge i n with h1 | h1
    · exact h1
    · rw [List.drop_of_length_le (by rw [keysI_len]; exact h1)] at h; cases h
  rw [List.drop_eq_getElem_cons (by rw [keysI_len]; exact hi)] at h
  injection h with h1 h2
  refine ⟨?_, h2, hi⟩
  rw [h1]
  unfold keysI
  rw [List.getElem_map, List.getElem_range]
def mn (i j : Int) : Int := if j < i then j else i
theorem RowOk.add {n i : Nat} {vs : List Int} {x : Int} (h : RowOk n i vs) (hx : x = 0 ∨ x = 1) (h1 : i = vs.length → x = 1) : RowOk n i (vs ++ [x]) := by
  refine ⟨fun y hy => ?_, fun hl => ?_⟩
  · rcases List.mem_append.mp hy with h2 | h2
    · exact h.bit _ h2
    · cases List.mem_singleton.mp h2; exact hx
  · rw [List.length_append, List.length_cons, List.length_nil] at hl
    rcases Nat.lt_or_ge i vs.length with h2 | h2
    · rw [List.getElem?_append_left h2]; exact h.one h2
    · have e : i = vs.length := by omega
      rw [List.getElem?_append_right h2, e, Nat.sub_self, h1 e]; rfl
end O
namespace O
open PySem PySem.Spec PyProof.Rows L2 J
local macro_rules | `(tactic| walk_at "vis") => `(tactic| first | exact Or.inl rfl | exact Or.inr (Or.inl rfl) | exact Or.inr (Or.inr rfl))
local macro_rules | `(tactic| walk_at "loc") => `(tactic| first | exact Or.inl rfl | exact Or.inr rfl)
local macro_rules | `(tactic| walk_at "hu") => `(tactic| exact Room.units (by assumption))
local macro_rules | `(tactic| walk_at "v") => `(tactic| first
  | refine je_var (i := 0) rfl (by walk_at "vis") rfl ?_
  | refine je_var (i := 1) rfl (by walk_at "vis") rfl ?_
  | refine je_var (i := 2) rfl (by walk_at "vis") rfl ?_
  | refine je_var (i := 3) rfl (by walk_at "vis") rfl ?_
  | refine je_var (i := 4) rfl (by walk_at "vis") rfl ?_
  | refine je_var (i := 5) rfl (by walk_at "vis") rfl ?_
  | refine je_var (i := 6) rfl (by walk_at "vis") rfl ?_
  | refine je_var (i := 7) rfl (by walk_at "vis") rfl ?_
  | refine je_var (i := 8) rfl (by walk_at "vis") rfl ?_
  | refine je_var (i := 9) rfl (by walk_at "vis") rfl ?_
  | refine je_var (i := 10) rfl (by walk_at "vis") rfl ?_
  | refine je_var (i := 11) rfl (by walk_at "vis") rfl ?_)
local macro_rules | `(tactic| walk_at "e") => `(tactic| first
  | with_reducible refine je_int ?_
  | with_reducible refine je_non ?_
  | with_reducible refine je_bl ?_
  | with_reducible refine je_str ?_
  | (with_reducible refine sh_name ?_); first | walk_at "v" | refine je_ty (by rfl) (Bl.int (by assumption)) bb_int ?_ | refine je_ty (by rfl) (Bl.bool (by assumption)) bb_bool ?_ | refine je_ty (by rfl) (Bl.list (by assumption)) bb_list ?_
  | (with_reducible refine sh_cons ?_); refine ja_cons ?_
  | with_reducible refine ja_nil ?_
  | with_reducible refine je_add ?_
  | with_reducible refine je_sub ?_
  | with_reducible refine je_mulI ?_
  | with_reducible refine je_mod ?_
  | with_reducible refine je_fdiv ?_
  | with_reducible refine je_powX ?_
  | (with_reducible refine je_eq ?_ ?_); walk_at "hu"
  | (with_reducible refine je_ne ?_ ?_); walk_at "hu"
  | with_reducible refine je_lt ?_
  | with_reducible refine je_le ?_
  | with_reducible refine je_gt ?_
  | with_reducible refine je_ge ?_
  | with_reducible refine je_isN ?_
  | with_reducible refine je_notN ?_
  | (with_reducible refine je_in ?_ ?_); rfl
  | (with_reducible refine je_nin ?_ ?_); rfl
  | (with_reducible refine je_chain ?_ ?_ ?_); first | exact op_le | exact op_lt | exact op_ge | exact op_gt; first | exact op_le | exact op_lt | exact op_ge | exact op_gt
  | with_reducible refine je_one ?_
  | with_reducible refine je_and ?_
  | with_reducible refine je_or ?_
  | with_reducible refine je_not ?_
  | with_reducible refine je_if ?_
  | with_reducible refine je_slice ?_
  | with_reducible refine jo_none ?_
  | with_reducible refine jo_some ?_
  | (with_reducible refine je_item ?_ ?_); exact (fun _ _ => rfl)
  | with_reducible refine je_lst ?_
  | with_reducible refine je_tup ?_
  | (with_reducible refine sh_callx "len" ?_); refine je_len (by rfl) (Bl.len (by assumption)) ?_
  | (with_reducible refine sh_callx "int" ?_); refine je_int1 (by rfl) (Bl.int (by assumption)) ?_
  | (with_reducible refine sh_callx "isinstance" ?_); refine je_isi (by rfl) (Bl.isinstance (by assumption)) ?_
  | (with_reducible refine sh_callx "all" ?_); refine je_all rfl (by rfl) (Bl.all (by assumption)) ?_
  | (with_reducible refine sh_callx "any" ?_); refine je_any rfl (by rfl) (Bl.any (by assumption)) ?_
  | (with_reducible refine sh_callx "abs" ?_); refine je_abs (by rfl) (Bl.abs (by assumption)) ?_
  | (with_reducible refine sh_callx "sorted" ?_); refine je_sorted (by rfl) (Bl.sorted (by assumption)) ?_
  | (with_reducible refine sh_callx "repr" ?_); refine je_repr (by assumption) (Room.units (by assumption)) (by rfl) (Bl.repr (by assumption)) ?_
  | (with_reducible refine sh_lr ?_); refine je_listR rfl (by rfl) (Bl.list (by assumption)) (by rfl) (Bl.range (by assumption)) ?_
  | (with_reducible refine sh_callx "list" ?_); refine je_list (by rfl) (Bl.list (by assumption)) ?_
  | (with_reducible refine sh_two "max" ?_); refine je_max2 rfl (by rfl) (Bl.max (by assumption)) ?_
  | (with_reducible refine sh_callx "max" ?_); refine je_maxL rfl (by rfl) (Bl.max (by assumption)) ?_
  | (with_reducible refine sh_two "min" ?_); refine je_min2 rfl (by rfl) (Bl.min (by assumption)) ?_
  | (with_reducible refine sh_call ?_); refine je_call (by assumption) (Room.mono (by assumption) (by decide)) (by assumption) (by rfl) ?_)
local macro_rules | `(tactic| walk_at "t") => `(tactic| first
  | with_reducible refine jt_w (jw_and ?_)
  | with_reducible refine jt_w (jw_or ?_)
  | with_reducible refine jw_and ?_
  | with_reducible refine jw_or ?_
  | with_reducible refine jw_and1 ?_
  | with_reducible refine jw_or1 ?_
  | with_reducible refine jt_not ?_
  | (with_reducible refine jt_eq ?_ ?_); walk_at "hu"
  | (with_reducible refine jt_ne ?_ ?_); walk_at "hu"
  | with_reducible refine jt_lt ?_
  | with_reducible refine jt_le ?_
  | with_reducible refine jt_gt ?_
  | with_reducible refine jt_ge ?_
  | with_reducible refine jt_isN ?_
  | with_reducible refine jt_notN ?_
  | (with_reducible refine jt_in ?_ ?_); rfl
  | (with_reducible refine jt_nin ?_ ?_); rfl
  | (with_reducible refine jt_chain2 ?_ ?_ ?_); first | exact op_le | exact op_lt | exact op_ge | exact op_gt; first | exact op_le | exact op_lt | exact op_ge | exact op_gt
  | (with_reducible refine sh_t ?_); refine jt_val ?_)
local macro_rules | `(tactic| walk_at "d") => `(tactic| first
  | with_reducible refine intW_mk ?_
  | with_reducible refine addW_int ?_
  | with_reducible refine lenW_lst ?_
  | with_reducible refine intCW_int ?_
  | with_reducible refine intCW_bl ?_
  | with_reducible refine EqW_int ?_
  | with_reducible refine EqW_ints ?_
  | with_reducible refine inW_ints ?_
  | with_reducible refine okT ?_
  | with_reducible refine okF ?_
  | with_reducible refine orT ?_
  | with_reducible refine orF ?_)
local macro_rules | `(tactic| walk_at "i") => `(tactic| first
  | (with_reducible refine sh_it "range" ?_); refine jit_range1 (by rfl) (Bl.range (by assumption)) ?_
  | (with_reducible refine sh_it "enumerate" ?_); refine jit_enum (by rfl) (Bl.enumerate (by assumption)) ?_
  | (with_reducible refine sh_it "zip" ?_); refine jit_zip (by rfl) (Bl.zip (by assumption)) ?_
  | refine jit_list ?_)
local macro_rules | `(tactic| walk_at "g") => `(tactic| repeat (first | walk_at "e" | walk_at "t" | walk_at "d"))
section
variable {P : Program} {w : World} {K : PySem.W.Frag} {mg : Str → Option Value} {base : Heap}
abbrev s_relation : Stmt := topS 23
theorem sc_relation : FnScope ["_law_draws_here", "_law_many", "_law_pick", "_law_low", "_law_high", "_law_told", "_law_one", "_law_other", "_law_some", "_law_k", "_law_near"] ["_law_draws_here", "_law_many"] (defScope s_relation) := ⟨rfl, rfl, rfl, by decide +kernel, rfl, by decide +kernel, by decide +kernel⟩
def sp_relation : DSpec := fun ds S P _ => ∃ (k : Nat) (a m : Int) (b : Bool) (n : Nat), ds = [.ptr k, .int n] ∧ S[k]? = some (dc a m b) ∧ 0 ≤ a ∧ 0 ≤ m ∧ m ≤ 100000000 ∧ n ≤ 10 ∧ ∀ r a' m', Rel r → 0 ≤ a' → m ≤ m' → m' ≤ m + 200 → P (relD r) (stW S k a' m' b)
abbrev picks : List D := [.tup [.int 1, .int 2], .tup [.int 1, .int 4], .tup [.int 3, .int 4], .tup [.int 1, .int 2], .tup [.int 1, .int 4], .tup [.int 1, .int 3], .tup [.int 1, .int 4], .tup [.int 1, .int 5]]
theorem pick_ok {p : Int} (h0 : 0 ≤ p) (h1 : p < 8) : ∃ lo hi : Int, atI picks p = some (.tup [.int lo, .int hi]) ∧ 0 < hi := by
  have : p = 0 ∨ p = 1 ∨ p = 2 ∨ p = 3 ∨ p = 4 ∨ p = 5 ∨ p = 6 ∨ p = 7 := by omega
  rcases this with rfl | rfl | rfl | rfl | rfl | rfl | rfl | rfl <;> exact ⟨_, _, rfl, by decide⟩
theorem jt_to {X : Cx} {c : Expr} {ρ : Sl} {S : Store} {PT : Bool → Store → Prop} {B : Bad} {v : Bool} (h : JT X c ρ S (fun k S1 => k = v ∧ S1 = S) B) (q : PT v S) : JT X c ρ S PT B := fun u σ H Q hW hS hE hQ =>
  h u σ H Q hW hS hE fun k H' ⟨u', S', A, hS', e1, e2⟩ => hQ k H' ⟨u', S', A, hS', by rw [e1, e2]; exact q⟩
theorem mn_in {r : Mat} {x y : Int} (hx : In r x) (hy : In r y) : In r (if y < x then y else x) := by split <;> assumption
theorem mx_in {r : Mat} {x y : Int} (hx : In r x) (hy : In r y) : In r (if y > x then y else x) := by split <;> assumption
abbrev b2i (t : Bool) : Int := if t then 1 else 0
theorem b2i_bit (t : Bool) : b2i t = 0 ∨ b2i t = 1 := by cases t <;> decide
theorem relD_map {α : Type} (xs : List α) (f : α → List Int) : D.lst (xs.map fun x => rowD (f x)) = relD (xs.map f) := by
  unfold relD
  rw [List.map_map]; rfl
theorem rowD_map {α : Type} (xs : List α) (f : α → Int) : D.lst (xs.map fun x => D.int (f x)) = rowD (xs.map f) := by
  unfold rowD intsD
  rw [List.map_map]; rfl
theorem g_relation (T : Bl mg) (G1 : GF P w K mg base 1 "_law_next" ["_law_draws_here"] sp_next) (G2 : GF P w K mg base 1 "_law_closed" ["_law_told"] sp_closed) (dd : Df K mg "_law_relation" s_relation) : GF P w K mg base 2 "_law_relation" ["_law_draws_here", "_law_many"] sp_relation := by
  refine gf_of dd sc_relation (fun _ _ _ _ _ _ us hl => match us, hl with | [_, _], _ => rfl) fun f cdv A outer s H E ds S PP EE hr hgd hl h => ?_
  obtain ⟨k, a, m, b, n, rfl, hs, ha, hm, hM, hn, h⟩ := h
  have hk : k < S.length := (List.getElem?_eq_some_iff.mp hs).1
  refine jss_pl fun hpl => ?_
  refine jss_cons (js_set (i := 2) sc_relation.nd rfl (by walk_at "loc") ?_)
  walk_at "g"
  refine ⟨rfl, k, a, m, b, rfl, hs, ha, hm, by omega, fun v a1 hv ha1 => ?_⟩
  walk_at "g"
  refine ⟨by decide, ?_⟩
  generalize hpk : v % 8 = pk
  have hp0 : 0 ≤ pk := by omega
  have hp1 : pk < 8 := by omega
  refine jss_cons ?_
  with_reducible refine js_unpack (.tp [3, 4]) ?_ ?_ ?_ ?_ ?_
  · exact pg_tup rfl (pgs_cons (pg_name (i := 3) sc_relation.nd rfl (by walk_at "loc")) (pgs_cons (pg_name (i := 4) sc_relation.nd rfl (by walk_at "loc")) pgs_nil))
  rotate_left
  · kernel_rfl
  · kernel_rfl
  · rfl
  walk_at "g"
  refine ⟨le_sl (n := 2) (by decide), ?_⟩
  walk_at "g"
  refine ⟨le_sl (n := 2) (by decide), ?_⟩
  walk_at "g"
  refine ⟨le_sl (n := 2) (by decide), ?_⟩
  walk_at "g"
  refine ⟨le_sl (n := 2) (by decide), ?_⟩
  walk_at "g"
  refine ⟨le_sl (n := 2) (by decide), ?_⟩
  walk_at "g"
  refine ⟨le_sl (n := 2) (by decide), ?_⟩
  walk_at "g"
  refine ⟨le_sl (n := 2) (by decide), ?_⟩
  walk_at "g"
  refine ⟨le_sl (n := 2) (by decide), ?_⟩
  walk_at "g"
  refine ⟨le_sl (n := 8) (by decide), ?_⟩
  walk_at "g"
  obtain ⟨lo, hi, epk, hhi⟩ := pick_ok hp0 hp1
  refine ixW_lst epk ⟨_, rfl, ?_⟩
  refine jss_cons (js_set (i := 5) sc_relation.nd rfl (by walk_at "loc") ?_)
  refine je_lstP ?_
  walk_at "g"
  refine ⟨le_sl (n := 0) (by decide), ?_⟩
  rw [List.length_set]
  refine jss_cons (js_forT (.nm 6) passes_own rfl (pg_name (i := 6) sc_relation.nd rfl (by walk_at "loc")) ?_)
  walk_at "i"
  walk_at "g"
  refine ⟨_, rfl, by omega, by omega, ?_⟩
  rw [Int.toNat_natCast, irow_keys]
  refine loop_inv (Iv := fun items ρ S' => ∃ (js : List Int) (rows : Mat) (a1 m1 : Int) (o6 o7 o8 o9 o10 : Option D), items = intsD js ∧ js = (keysI n).drop rows.length ∧ rows.length + js.length = n ∧ RowsOk n rows ∧ 0 ≤ a1 ∧ m + 1 ≤ m1 ∧ m1 ≤ m + 1 + 10 * rows.length ∧ S' = stW S k a1 m1 b ++ [.lst (rows.map rowD)] ∧ ρ = [some (.ptr k), some (.int n), some (.int pk), some (.int lo), some (.int hi), some (.ptr S.length), o6, o7, o8, o9, o10]) ?_ ?_ ⟨_, [], a1, m + 1, none, none, none, none, none, rfl, rfl, by rw [List.length_nil, keysI_len]; omega, ⟨(fun _ hx => nomatch hx), (fun _ hx => nomatch hx), fun i row e => by cases e⟩, ha1, by omega, by rw [List.length_nil]; omega, rfl, rfl⟩
  · rintro d ds ρ S' ⟨js, rows, a1, m1, o6, o7, o8, o9, o10, e1, e2, hz, hR, ha1, hm1, hm2, rfl, rfl⟩
    cases js with
    | nil => cases e1
    | cons i js =>
      cases e1
      obtain ⟨rfl, e3, hi⟩ := drop_cons e2
      rw [List.length_cons] at hz
      refine ⟨_, rfl, jss_one (js_expr (je_append ?_))⟩
      walk_at "g"
      refine ⟨_, _, rfl, stW_lat, ?_⟩
      refine ja_cons (je_lc1 (.nm 7) [("_law_other", 7)] rfl sc_relation.nd (by kernel_rfl) (fun b => pg_name (i := 7) sc_relation.nd rfl (Or.inl rfl)) ?_)
      walk_at "i"
      walk_at "g"
      refine ⟨_, rfl, by omega, by omega, ?_⟩
      rw [Int.toNat_natCast, irow_keys]
      refine lpp_inv (Iv := fun items T acc => ∃ (js vs : List Int) (a2 m2 : Int), items = intsD js ∧ acc = intsD vs ∧ js = (keysI n).drop vs.length ∧ vs.length + js.length = n ∧ RowOk n rows.length vs ∧ 0 ≤ a2 ∧ m1 ≤ m2 ∧ m2 ≤ m1 + vs.length ∧ T = stW S k a2 m2 b ++ [.lst (rows.map rowD)]) ?_ ?_ ⟨_, [], a1, m1, rfl, rfl, rfl, by rw [List.length_nil, keysI_len]; omega, ⟨(fun _ hx => nomatch hx), fun z => absurd z (Nat.not_lt_zero _)⟩, ha1, by omega, by rw [List.length_nil]; omega, rfl⟩
      · rintro d ds T acc ⟨js', vs, a2, m2, e4, rfl, e5, hz2, hro, ha2, hm3, hm4, rfl⟩
        cases js' with
        | nil => cases e4
        | cons j js' =>
          cases e4
          obtain ⟨rfl, e6, hj⟩ := drop_cons e5
          rw [List.length_cons] at hz2
          refine ⟨_, rfl, fun bb => jts_nil (okT fun bb => ?_)⟩
          have fin : ∀ (x a3 m3 : Int), (x = 0 ∨ x = 1) → (rows.length = vs.length → x = 1) → 0 ≤ a3 → m2 ≤ m3 → m3 ≤ m2 + 1 → (intsD vs).length < sizeLine ∧ ∃ (js vs' : List Int) (a2 m2 : Int), intsD js' = intsD js ∧ intsD vs ++ [D.int x] = intsD vs' ∧ js = (keysI n).drop vs'.length ∧ vs'.length + js.length = n ∧ RowOk n rows.length vs' ∧ 0 ≤ a2 ∧ m1 ≤ m2 ∧ m2 ≤ m1 + vs'.length ∧ stW S k a3 m3 b ++ [Cell.lst (rows.map rowD)] = stW S k a2 m2 b ++ [.lst (rows.map rowD)] := fun x a3 m3 hx h1 h3 h4 h5 => by
            refine ⟨by rw [intsD_len]; exact le_sl (by omega), js', vs ++ [x], a3, m3, rfl, (intsD_app vs [x]), ?_, ?_, hro.add hx h1, h3, by omega, ?_, rfl⟩
            · rw [List.length_append]; exact e6
            · rw [List.length_append, List.length_cons, List.length_nil]; omega
            · rw [List.length_append, List.length_cons, List.length_nil]; omega
          walk_at "g"
          refine ⟨_, rfl, fun e => ?_, fun e => ?_⟩
          · walk_at "g"
            refine ⟨rfl, k, a2, m2, b, rfl, stW_atc hk, ha2, by omega, by omega, fun v2 a3 hv2 ha3 => ?_⟩
            rw [stW_setc hk]
            walk_at "g"
            refine ⟨hhi, ?_⟩
            walk_at "g"
            refine fin _ a3 (m2 + 1) ?_ (fun z => absurd (by rw [z]) (of_decide_eq_false e)) ha3 (by omega) (by omega)
            split
            · exact .inr rfl
            · exact .inl rfl
          · walk_at "g"
            exact fin _ a2 m2 (.inr rfl) (fun _ => rfl) ha2 (by omega) (by omega)
      · rintro T acc ⟨js', vs, a2, m2, e4, rfl, e5, hz2, hro, ha2, hm3, hm4, rfl⟩
        cases js' with
        | cons x xs => cases e4
        | nil =>
          rw [List.length_nil, Nat.add_zero] at hz2
          show JA _ _ _ _ _ _
          walk_at "g"
          refine ⟨_, _, rfl, stW_lat, ?_, ?_⟩
          · rw [List.length_map]
            exact le_sl (by omega)
          · rw [stW_lset]
            refine ⟨js, rows ++ [vs], a2, m2, _, _, _, _, _, rfl, ?_, ?_, hR.add hz2 hro.bit (hro.one (by omega)), ha2, by omega, ?_, ?_, rfl⟩
            · rw [List.length_append]; exact e3
            · rw [List.length_append, List.length_cons, List.length_nil]; omega
            · rw [List.length_append, List.length_cons, List.length_nil]; omega
            · rw [List.map_append]; rfl
  · rintro ρ S' ⟨js, rows, a1, m1, o6, o7, o8, o9, o10, e1, e2, hz, hR, ha1, hm1, hm2, rfl, rfl⟩
    cases js with
    | cons x hs' => cases e1
    | nil =>
      rw [List.length_nil, Nat.add_zero] at hz
      have R := hR.rel hz hn
      have hlr : rows.length ≤ 10 := by omega
      refine jss_less [some (.ptr k), some (.int n), some (.int pk), some (.int lo), some (.int hi), some (.ptr (stW S k a1 m1 b).length), none, none, none, none, none] ⟨rfl, rfl, rfl, rfl, rfl, by rw [List.length_set], trivial⟩ ?_
      refine jss_rest (i := 5) rfl (by rw [List.length_set]; exact Nat.le_refl _) (pl_rows _) (stW_pl hpl) ⟨by unfold D.pl; rw [List.length_set]; exact hk, trivial, trivial, trivial, trivial, trivial⟩ ?_
      have hns : ∀ {x : Int}, x ∈ keysI n → In rows x := fun hx => by
        have := mem_keysI.mp hx
        exact ⟨this.1, by rw [hz]; exact this.2⟩
      refine jss_cons (js_if (jt_to (v := decide (pk = 3) || decide (pk = 4)) ?_ ⟨fun _ => ?_, fun _ => ?_⟩))
      · walk_at "g"
        refine ⟨fun e => ?_, fun e => ?_⟩
        · walk_at "g"
          rw [e]
          exact ⟨rfl, rfl⟩
        · rw [e]
          exact ⟨rfl, rfl⟩
      · refine jss_one (js_ret ?_)
        refine je_lc1 (.nm 6) [("_law_one", 6)] rfl sc_relation.nd (by kernel_rfl) (fun b => pg_name (i := 6) sc_relation.nd rfl (Or.inr rfl)) ?_
        walk_at "i"
        walk_at "g"
        refine ⟨_, rfl, by omega, by omega, ?_⟩
        rw [Int.toNat_natCast, irow_keys]
        refine lpp_map D.int (fun x => rowD ((keysI n).map fun y => ans rows (if y < x then y else x) (if y > x then y else x))) (keysI n) rfl (fun x hx => ⟨_, rfl, fun bb PP q => ?_⟩) (le_sl (by rw [keysI_len]; omega)) ?_
        · refine je_lc1 (.nm 7) [("_law_other", 7)] rfl sc_relation.nd (by kernel_rfl) (fun b => pg_name (i := 7) sc_relation.nd rfl (Or.inl rfl)) ?_
          walk_at "i"
          walk_at "g"
          refine ⟨_, rfl, by omega, by omega, ?_⟩
          rw [Int.toNat_natCast, irow_keys]
          refine lpp_map D.int (fun y => D.int (ans rows (if y < x then y else x) (if y > x then y else x))) (keysI n) rfl (fun y hy => ⟨_, rfl, fun bb PP q => ?_⟩) (le_sl (by rw [keysI_len]; omega)) ?_
          · walk_at "g"
            refine ⟨_, _, rfl, ?_⟩
            refine ixW_lst (rel_at (mn_in (hns hx) (hns hy))) ?_
            walk_at "g"
            refine ⟨_, _, rfl, ?_⟩
            exact ixW_lst (row_at R (mn_in (hns hx) (hns hy)) (mx_in (hns hx) (hns hy))) q
          · show PP _ _
            rw [rowD_map]
            exact q
        · show RetP PP (.rt (.lst _) _)
          rw [relD_map]
          refine h _ a1 m1 (rel_of _ (by rw [keysI_len]; exact hn) _ (fun x y => ans_bit R _ _) fun x hx => ?_) ha1 (by omega) (by omega)
          rw [if_neg (Int.lt_irrefl _)]
          exact ans_self R (hns hx)
      refine jss_nil ?_
      refine jss_cons (js_set (i := 8) sc_relation.nd rfl (by walk_at "loc") (je_lc1 (.nm 9) [("_law_k", 9)] rfl sc_relation.nd (by kernel_rfl) (fun b => pg_name (i := 9) sc_relation.nd rfl (Or.inl rfl)) ?_))
      walk_at "i"
      walk_at "g"
      refine ⟨_, rfl, by omega, by omega, ?_⟩
      rw [Int.toNat_natCast, irow_keys]
      refine lpp_inv (Iv := fun items T acc => ∃ (js vs : List Int) (a2 m2 : Int), items = intsD js ∧ acc = intsD vs ∧ vs.length + js.length = n ∧ 0 ≤ a2 ∧ m1 ≤ m2 ∧ m2 ≤ m1 + vs.length ∧ T = stW S k a2 m2 b) ?_ ?_ ⟨_, [], a1, m1, rfl, rfl, by rw [List.length_nil, keysI_len]; omega, ha1, by omega, by rw [List.length_nil]; omega, rfl⟩
      · rintro d ds T acc ⟨js', vs, a2, m2, e4, rfl, hz2, ha2, hm3, hm4, rfl⟩
        cases js' with
        | nil => cases e4
        | cons j js' =>
          cases e4
          rw [List.length_cons] at hz2
          refine ⟨_, rfl, fun bb => jts_nil (okT fun bb => ?_)⟩
          walk_at "g"
          refine ⟨rfl, k, a2, m2, b, rfl, stW_at hk, ha2, by omega, by omega, fun v2 a3 hv2 ha3 => ?_⟩
          rw [stW_set]
          walk_at "g"
          refine ⟨.inl ⟨by decide, by decide⟩, ?_⟩
          walk_at "g"
          refine ⟨by omega, ?_⟩
          refine ⟨by rw [intsD_len]; exact le_sl (by omega), js', vs ++ [_], a3, m2 + 1, rfl, (intsD_app vs [_]), ?_, ha3, by omega, ?_, rfl⟩
          · rw [List.length_append, List.length_cons, List.length_nil]; omega
          · rw [List.length_append, List.length_cons, List.length_nil]; omega
      · rintro T acc ⟨js', sm, a2, m2, e4, rfl, hz2, ha2, hm3, hm4, rfl⟩
        cases js' with
        | cons x xs => cases e4
        | nil =>
          rw [List.length_nil, Nat.add_zero] at hz2
          have hsl : sm.length ≤ 10 := by omega
          refine jss_cons (js_if (jt_to (v := decide (pk = 5)) ?_ ⟨fun _ => ?_, fun _ => ?_⟩))
          · walk_at "g"
            exact ⟨rfl, rfl⟩
          · refine jss_cons (js_set (i := 10) sc_relation.nd rfl (by walk_at "loc") ?_)
            walk_at "g"
            refine ⟨rfl, k, a2, m2, b, rfl, stW_at hk, ha2, by omega, by omega, fun v2 a3 hv2 ha3 => ?_⟩
            rw [stW_set]
            walk_at "g"
            refine ⟨by decide, ?_⟩
            generalize hnr : v2 % 4 = nr
            have hn0 : 0 ≤ nr := by omega
            refine jss_one (js_ret ?_)
            refine je_lc1 (.nm 6) [("_law_one", 6)] rfl sc_relation.nd (by kernel_rfl) (fun b => pg_name (i := 6) sc_relation.nd rfl (Or.inr rfl)) ?_
            walk_at "i"
            walk_at "g"
            refine ⟨_, rfl, ?_⟩
            refine lpp_map D.int (fun x => rowD (sm.map fun y => b2i (decide ((if x - y < 0 then -(x - y) else x - y) ≤ nr)))) sm rfl (fun x hx => ⟨_, rfl, fun bb PP q => ?_⟩) (le_sl (by omega)) ?_
            · refine je_lc1 (.nm 7) [("_law_other", 7)] rfl sc_relation.nd (by kernel_rfl) (fun b => pg_name (i := 7) sc_relation.nd rfl (Or.inl rfl)) ?_
              walk_at "i"
              walk_at "g"
              refine ⟨_, rfl, ?_⟩
              refine lpp_map D.int (fun y => D.int (b2i (decide ((if x - y < 0 then -(x - y) else x - y) ≤ nr)))) sm rfl (fun y hy => ⟨_, rfl, fun bb PP q => ?_⟩) (le_sl (by omega)) ?_
              · walk_at "g"
                refine ⟨_, rfl, ?_⟩
                walk_at "g"
                exact q
              · show PP _ _
                rw [rowD_map]
                exact q
            · show RetP PP (.rt (.lst _) _)
              rw [relD_map]
              refine h _ a3 (m2 + 1) (rel_of sm hsl _ (fun x y => b2i_bit _) fun x hx => ?_) ha3 (by omega) (by omega)
              rw [Int.sub_self, if_neg (by decide), decide_eq_true hn0]
              rfl
          refine jss_nil ?_
          refine jss_cons (js_if (jt_to (v := decide (pk = 6)) ?_ ⟨fun _ => ?_, fun _ => ?_⟩))
          · walk_at "g"
            exact ⟨rfl, rfl⟩
          · refine jss_one (js_ret ?_)
            refine je_lc1 (.nm 6) [("_law_one", 6)] rfl sc_relation.nd (by kernel_rfl) (fun b => pg_name (i := 6) sc_relation.nd rfl (Or.inr rfl)) ?_
            walk_at "i"
            walk_at "g"
            refine ⟨_, rfl, ?_⟩
            refine lpp_map D.int (fun x => rowD (sm.map fun y => b2i (decide (x / 3 = y / 3)))) sm rfl (fun x hx => ⟨_, rfl, fun bb PP q => ?_⟩) (le_sl (by omega)) ?_
            · refine je_lc1 (.nm 7) [("_law_other", 7)] rfl sc_relation.nd (by kernel_rfl) (fun b => pg_name (i := 7) sc_relation.nd rfl (Or.inl rfl)) ?_
              walk_at "i"
              walk_at "g"
              refine ⟨_, rfl, ?_⟩
              refine lpp_map D.int (fun y => D.int (b2i (decide (x / 3 = y / 3)))) sm rfl (fun y hy => ⟨_, rfl, fun bb PP q => ?_⟩) (le_sl (by omega)) ?_
              · walk_at "g"
                refine ⟨⟨by decide, by decide⟩, ?_⟩
                walk_at "g"
                refine ⟨⟨by decide, by decide⟩, ?_⟩
                walk_at "g"
                exact q
              · show PP _ _
                rw [rowD_map]
                exact q
            · show RetP PP (.rt (.lst _) _)
              rw [relD_map]
              refine h _ a2 m2 (rel_of sm hsl _ (fun x y => b2i_bit _) fun x hx => ?_) ha2 (by omega) (by omega)
              rw [decide_eq_true rfl]
              rfl
          refine jss_nil ?_
          refine jss_one (js_ret ?_)
          walk_at "g"
          refine ⟨fun e => ?_, fun e => ?_⟩
          · walk_at "g"
            exact ⟨rfl, rows, rfl, R, fun r' R' => h r' a2 m2 R' ha2 (by omega) (by omega)⟩
          · walk_at "g"
            exact h rows a2 m2 R ha2 (by omega) (by omega)
end
end O
namespace O
open PySem PySem.Spec PyProof.Rows L2 J
local macro_rules | `(tactic| walk_at "vis") => `(tactic| first | exact Or.inl rfl | exact Or.inr (Or.inl rfl) | exact Or.inr (Or.inr rfl))
local macro_rules | `(tactic| walk_at "loc") => `(tactic| first | exact Or.inl rfl | exact Or.inr rfl)
local macro_rules | `(tactic| walk_at "hu") => `(tactic| exact Room.units (by assumption))
local macro_rules | `(tactic| walk_at "v") => `(tactic| first
  | refine je_var (i := 0) rfl (by walk_at "vis") rfl ?_
  | refine je_var (i := 1) rfl (by walk_at "vis") rfl ?_
  | refine je_var (i := 2) rfl (by walk_at "vis") rfl ?_
  | refine je_var (i := 3) rfl (by walk_at "vis") rfl ?_
  | refine je_var (i := 4) rfl (by walk_at "vis") rfl ?_
  | refine je_var (i := 5) rfl (by walk_at "vis") rfl ?_
  | refine je_var (i := 6) rfl (by walk_at "vis") rfl ?_
  | refine je_var (i := 7) rfl (by walk_at "vis") rfl ?_
  | refine je_var (i := 8) rfl (by walk_at "vis") rfl ?_
  | refine je_var (i := 9) rfl (by walk_at "vis") rfl ?_
  | refine je_var (i := 10) rfl (by walk_at "vis") rfl ?_
  | refine je_var (i := 11) rfl (by walk_at "vis") rfl ?_)
local macro_rules | `(tactic| walk_at "e") => `(tactic| first
  | with_reducible refine je_int ?_
  | with_reducible refine je_non ?_
  | with_reducible refine je_bl ?_
  | with_reducible refine je_str ?_
  | (with_reducible refine sh_name ?_); first | walk_at "v" | refine je_ty (by rfl) (Bl.int (by assumption)) bb_int ?_ | refine je_ty (by rfl) (Bl.bool (by assumption)) bb_bool ?_ | refine je_ty (by rfl) (Bl.list (by assumption)) bb_list ?_
  | (with_reducible refine sh_cons ?_); refine ja_cons ?_
  | with_reducible refine ja_nil ?_
  | with_reducible refine je_add ?_
  | with_reducible refine je_sub ?_
  | with_reducible refine je_mulI ?_
  | with_reducible refine je_mod ?_
  | with_reducible refine je_fdiv ?_
  | with_reducible refine je_powX ?_
  | (with_reducible refine je_eq ?_ ?_); walk_at "hu"
  | (with_reducible refine je_ne ?_ ?_); walk_at "hu"
  | with_reducible refine je_lt ?_
  | with_reducible refine je_le ?_
  | with_reducible refine je_gt ?_
  | with_reducible refine je_ge ?_
  | with_reducible refine je_isN ?_
  | with_reducible refine je_notN ?_
  | (with_reducible refine je_in ?_ ?_); rfl
  | (with_reducible refine je_nin ?_ ?_); rfl
  | (with_reducible refine je_chain ?_ ?_ ?_); first | exact op_le | exact op_lt | exact op_ge | exact op_gt; first | exact op_le | exact op_lt | exact op_ge | exact op_gt
  | with_reducible refine je_one ?_
  | with_reducible refine je_and ?_
  | with_reducible refine je_or ?_
  | with_reducible refine je_not ?_
  | with_reducible refine je_if ?_
  | with_reducible refine je_slice ?_
  | with_reducible refine jo_none ?_
  | with_reducible refine jo_some ?_
  | (with_reducible refine je_item ?_ ?_); exact (fun _ _ => rfl)
  | with_reducible refine je_lst ?_
  | with_reducible refine je_tup ?_
  | (with_reducible refine sh_callx "len" ?_); refine je_len (by rfl) (Bl.len (by assumption)) ?_
  | (with_reducible refine sh_callx "int" ?_); refine je_int1 (by rfl) (Bl.int (by assumption)) ?_
  | (with_reducible refine sh_callx "isinstance" ?_); refine je_isi (by rfl) (Bl.isinstance (by assumption)) ?_
  | (with_reducible refine sh_callx "all" ?_); refine je_all rfl (by rfl) (Bl.all (by assumption)) ?_
  | (with_reducible refine sh_callx "any" ?_); refine je_any rfl (by rfl) (Bl.any (by assumption)) ?_
  | (with_reducible refine sh_callx "abs" ?_); refine je_abs (by rfl) (Bl.abs (by assumption)) ?_
  | (with_reducible refine sh_callx "sorted" ?_); refine je_sorted (by rfl) (Bl.sorted (by assumption)) ?_
  | (with_reducible refine sh_callx "repr" ?_); refine je_repr (by assumption) (Room.units (by assumption)) (by rfl) (Bl.repr (by assumption)) ?_
  | (with_reducible refine sh_lr ?_); refine je_listR rfl (by rfl) (Bl.list (by assumption)) (by rfl) (Bl.range (by assumption)) ?_
  | (with_reducible refine sh_callx "list" ?_); refine je_list (by rfl) (Bl.list (by assumption)) ?_
  | (with_reducible refine sh_two "max" ?_); refine je_max2 rfl (by rfl) (Bl.max (by assumption)) ?_
  | (with_reducible refine sh_callx "max" ?_); refine je_maxL rfl (by rfl) (Bl.max (by assumption)) ?_
  | (with_reducible refine sh_two "min" ?_); refine je_min2 rfl (by rfl) (Bl.min (by assumption)) ?_
  | (with_reducible refine sh_call ?_); refine je_call (by assumption) (Room.mono (by assumption) (by decide)) (by assumption) (by rfl) ?_)
local macro_rules | `(tactic| walk_at "t") => `(tactic| first
  | with_reducible refine jt_w (jw_and ?_)
  | with_reducible refine jt_w (jw_or ?_)
  | with_reducible refine jw_and ?_
  | with_reducible refine jw_or ?_
  | with_reducible refine jw_and1 ?_
  | with_reducible refine jw_or1 ?_
  | with_reducible refine jt_not ?_
  | (with_reducible refine jt_eq ?_ ?_); walk_at "hu"
  | (with_reducible refine jt_ne ?_ ?_); walk_at "hu"
  | with_reducible refine jt_lt ?_
  | with_reducible refine jt_le ?_
  | with_reducible refine jt_gt ?_
  | with_reducible refine jt_ge ?_
  | with_reducible refine jt_isN ?_
  | with_reducible refine jt_notN ?_
  | (with_reducible refine jt_in ?_ ?_); rfl
  | (with_reducible refine jt_nin ?_ ?_); rfl
  | (with_reducible refine jt_chain2 ?_ ?_ ?_); first | exact op_le | exact op_lt | exact op_ge | exact op_gt; first | exact op_le | exact op_lt | exact op_ge | exact op_gt
  | (with_reducible refine sh_t ?_); refine jt_val ?_)
local macro_rules | `(tactic| walk_at "d") => `(tactic| first
  | with_reducible refine intW_mk ?_
  | with_reducible refine addW_int ?_
  | with_reducible refine lenW_lst ?_
  | with_reducible refine intCW_int ?_
  | with_reducible refine intCW_bl ?_
  | with_reducible refine EqW_int ?_
  | with_reducible refine EqW_ints ?_
  | with_reducible refine inW_ints ?_
  | with_reducible refine okT ?_
  | with_reducible refine okF ?_
  | with_reducible refine orT ?_
  | with_reducible refine orF ?_)
local macro_rules | `(tactic| walk_at "i") => `(tactic| first
  | (with_reducible refine sh_it "range" ?_); refine jit_range1 (by rfl) (Bl.range (by assumption)) ?_
  | (with_reducible refine sh_it "enumerate" ?_); refine jit_enum (by rfl) (Bl.enumerate (by assumption)) ?_
  | (with_reducible refine sh_it "zip" ?_); refine jit_zip (by rfl) (Bl.zip (by assumption)) ?_
  | refine jit_list ?_)
local macro_rules | `(tactic| walk_at "g") => `(tactic| repeat (first | walk_at "e" | walk_at "t" | walk_at "d"))
abbrev tupD (l : List Int) : D := .tup (intsD l)
def lonD (r : Mat) : D := match osi r with
  | d :: _ => d
  | [] => ((loP r).map tupD).headD .non
theorem headD_map {α β : Type} (f : α → β) (xs : List α) (d : α) : (xs.map f).headD (f d) = f (xs.headD d) := by cases xs <;> rfl
theorem fits_sub {n : Nat} {α : Type} {f : α → D} {xs ys : List α} (h : Fits n (.lst (xs.map f))) (hs : ∀ x ∈ ys, ∃ y ∈ xs, x = y) : True := trivial
theorem tris_fits (ts : List T3) : Fits 2 (.lst (ts.map triD)) := fits_tups fun d hd => by
  obtain ⟨t, _, rfl⟩ := List.mem_map.mp hd
  exact ⟨[t.1, t.2.1, t.2.2], rfl⟩
theorem strg_bls (r : Mat) (k : Int) (os : List Int) : (os.map fun o => D.bl (st r k o || st r o k)) = bls (os.map fun o => st r k o || st r o k) := by unfold bls; rw [List.map_map]; rfl
theorem any_map_id {α : Type} (f : α → Bool) (xs : List α) : (xs.map f).any id = xs.any f := by rw [List.any_map]; rfl
section
variable {P : Program} {w : World} {K : PySem.W.Frag} {mg : Str → Option Value} {base : Heap}
abbrev s_first_of : Stmt := topS 7
theorem sc_first_of : FnScope ["things"] ["things"] (defScope s_first_of) := ⟨rfl, rfl, rfl, by decide +kernel, rfl, by decide +kernel, by decide +kernel⟩
def sp_first_of : DSpec := fun ds S P _ => ∃ xs n, ds = [.lst xs] ∧ Fits n (.lst xs) ∧ n ≤ 64 ∧ P (xs.headD .non) S
theorem g_first_of (T : Bl mg)   (dd : Df K mg "first_of" s_first_of) : GF P w K mg base 1 "first_of" ["things"] sp_first_of := by
  refine gf_of dd sc_first_of (fun _ _ _ _ _ _ us hl => match us, hl with | [_], _ => rfl) fun f cdv A outer s H E ds S PP EE hr hgd hl h => ?_
  obtain ⟨xs, n, rfl, hf, hn, h⟩ := h
  refine jss_one (js_ret ?_)
  walk_at "g"
  refine ⟨le_sl (n := 0) (by decide), EqW_nil hf hn ⟨fun e => ?_, fun e => ?_⟩⟩
  · cases xs with
    | nil => cases e
    | cons x xs =>
      walk_at "g"
      exact ixW_lst (atI_to (Int.le_refl 0) rfl) h
  · cases xs with
    | nil =>
      walk_at "g"
      exact h
    | cons x xs => cases e
abbrev s_one_sided : Stmt := topS 10
theorem sc_one_sided : FnScope ["relation"] ["relation"] (defScope s_one_sided) := ⟨rfl, rfl, rfl, by decide +kernel, rfl, by decide +kernel, by decide +kernel⟩
def sp_one_sided : DSpec := fun ds S P _ => ∃ r, ds = [relD r] ∧ Rel r ∧ P ((osi r).headD .non) S
theorem g_one_sided (T : Bl mg) (G0 : GF P w K mg base 3 "check_relation" ["relation"] sp_check_relation) (G1 : GF P w K mg base 1 "first_of" ["things"] sp_first_of) (G2 : GF P w K mg base 2 "one_sided_in" ["relation"] sp_one_sided_in)  (dd : Df K mg "one_sided" s_one_sided) : GF P w K mg base 4 "one_sided" ["relation"] sp_one_sided := by
  refine gf_of dd sc_one_sided (fun _ _ _ _ _ _ us hl => match us, hl with | [_], _ => rfl) fun f cdv A outer s H E ds S PP EE hr hgd hl h => ?_
  obtain ⟨r, rfl, R, h⟩ := h
  refine jss_cons (js_expr ?_)
  walk_at "g"
  refine ⟨rfl, r, rfl, R, ?_⟩
  refine jss_one (js_ret ?_)
  walk_at "g"
  refine ⟨rfl, r, rfl, R, ?_⟩
  walk_at "g"
  exact ⟨rfl, _, 2, rfl, osi_fits r, by decide, h⟩
abbrev s_open_triple : Stmt := topS 11
theorem sc_open_triple : FnScope ["relation"] ["relation"] (defScope s_open_triple) := ⟨rfl, rfl, rfl, by decide +kernel, rfl, by decide +kernel, by decide +kernel⟩
def sp_open_triple : DSpec := fun ds S P _ => ∃ r, ds = [relD r] ∧ Rel r ∧ P ((otr r).headD .non) S
theorem g_open_triple (T : Bl mg) (G0 : GF P w K mg base 3 "check_relation" ["relation"] sp_check_relation) (G1 : GF P w K mg base 1 "first_of" ["things"] sp_first_of) (G2 : GF P w K mg base 2 "open_triples" ["relation"] sp_open_triples)  (dd : Df K mg "open_triple" s_open_triple) : GF P w K mg base 4 "open_triple" ["relation"] sp_open_triple := by
  refine gf_of dd sc_open_triple (fun _ _ _ _ _ _ us hl => match us, hl with | [_], _ => rfl) fun f cdv A outer s H E ds S PP EE hr hgd hl h => ?_
  obtain ⟨r, rfl, R, h⟩ := h
  refine jss_cons (js_expr ?_)
  walk_at "g"
  refine ⟨rfl, r, rfl, R, ?_⟩
  refine jss_one (js_ret ?_)
  walk_at "g"
  refine ⟨rfl, r, rfl, R, ?_⟩
  walk_at "g"
  exact ⟨rfl, _, 2, rfl, otr_fits r, by decide, h⟩
abbrev s_leaning_in : Stmt := topS 12
theorem sc_leaning_in : FnScope ["relation", "triple"] ["relation"] (defScope s_leaning_in) := ⟨rfl, rfl, rfl, by decide +kernel, rfl, by decide +kernel, by decide +kernel⟩
def sp_leaning_in : DSpec := fun ds S P _ => ∃ r, ds = [relD r] ∧ Rel r ∧ P (.lst ((leP r).map triD)) S
theorem g_leaning_in (T : Bl mg) (G0 : GF P w K mg base 2 "open_triples" ["relation"] sp_open_triples) (G1 : GF P w K mg base 1 "stands" ["relation", "one", "other"] sp_stands)  (dd : Df K mg "leaning_in" s_leaning_in) : GF P w K mg base 3 "leaning_in" ["relation"] sp_leaning_in := by
  refine gf_of dd sc_leaning_in (fun _ _ _ _ _ _ us hl => match us, hl with | [_], _ => rfl) fun f cdv A outer s H E ds S PP EE hr hgd hl h => ?_
  obtain ⟨r, rfl, R, h⟩ := h
  refine jss_one (js_ret ?_)
  refine je_lc1 (.nm 1) [("triple", 1)] rfl sc_leaning_in.nd (by kernel_rfl) (fun b => pg_name (i := 1) sc_leaning_in.nd rfl (by walk_at "loc")) ?_
  walk_at "i"
  walk_at "g"
  refine ⟨rfl, r, rfl, R, _, rfl, ?_⟩
  rw [otr_eq]
  refine lpp_filt triD (fun t => !st r t.2.2 t.2.1) triD (otP r) rfl (fun t ht => ⟨_, rfl, fun b PT q => ?_, fun _ b PP q => ?_⟩) (le_sl ?_) h
  · obtain ⟨⟨h1, h2, h3⟩, _⟩ := mem_ot.mp ht
    walk_at "g"
    refine ixW_tup (d := .int t.2.2) rfl ?_
    walk_at "g"
    refine ixW_tup (d := .int t.2.1) rfl ?_
    walk_at "g"
    exact ⟨rfl, r, t.2.2, t.2.1, rfl, R, h3, h2, _, rfl, q⟩
  · walk_at "g"
    exact q
  · exact Nat.le_trans (List.length_filter_le _ _) (Nat.le_trans (otP_len R) (by decide))
abbrev s_leaning : Stmt := topS 13
theorem sc_leaning : FnScope ["relation"] ["relation"] (defScope s_leaning) := ⟨rfl, rfl, rfl, by decide +kernel, rfl, by decide +kernel, by decide +kernel⟩
def sp_leaning : DSpec := fun ds S P _ => ∃ r, ds = [relD r] ∧ Rel r ∧ P (((leP r).map triD).headD .non) S
theorem g_leaning (T : Bl mg) (G0 : GF P w K mg base 3 "check_relation" ["relation"] sp_check_relation) (G1 : GF P w K mg base 1 "first_of" ["things"] sp_first_of) (G2 : GF P w K mg base 3 "leaning_in" ["relation"] sp_leaning_in)  (dd : Df K mg "leaning" s_leaning) : GF P w K mg base 4 "leaning" ["relation"] sp_leaning := by
  refine gf_of dd sc_leaning (fun _ _ _ _ _ _ us hl => match us, hl with | [_], _ => rfl) fun f cdv A outer s H E ds S PP EE hr hgd hl h => ?_
  obtain ⟨r, rfl, R, h⟩ := h
  refine jss_cons (js_expr ?_)
  walk_at "g"
  refine ⟨rfl, r, rfl, R, ?_⟩
  refine jss_one (js_ret ?_)
  walk_at "g"
  refine ⟨rfl, r, rfl, R, ?_⟩
  walk_at "g"
  exact ⟨rfl, _, 2, rfl, tris_fits _, by decide, h⟩
abbrev s_are_strangers : Stmt := topS 14
theorem sc_are_strangers : FnScope ["relation", "key", "others", "other"] ["relation", "key", "others"] (defScope s_are_strangers) := ⟨rfl, rfl, rfl, by decide +kernel, rfl, by decide +kernel, by decide +kernel⟩
def sp_are_strangers : DSpec := fun ds S P _ => ∃ r k os, ds = [relD r, .int k, tupD os] ∧ Rel r ∧ In r k ∧ Keys r os ∧ os.length ≤ 1000 ∧ P (.bl (strg r k os)) S
theorem g_are_strangers (T : Bl mg) (G0 : GF P w K mg base 1 "stands" ["relation", "one", "other"] sp_stands)  (dd : Df K mg "are_strangers" s_are_strangers) : GF P w K mg base 2 "are_strangers" ["relation", "key", "others"] sp_are_strangers := by
  refine gf_of dd sc_are_strangers (fun _ _ _ _ _ _ us hl => match us, hl with | [_, _, _], _ => rfl) fun f cdv A outer s H E ds S PP EE hr hgd hl h => ?_
  obtain ⟨r, k, os, rfl, R, hk, hos, hz, h⟩ := h
  refine jss_one (js_ret ?_)
  walk_at "g"
  refine je_lc1 (.nm 3) [("other", 3)] rfl sc_are_strangers.nd (by kernel_rfl) (fun b => pg_name (i := 3) sc_are_strangers.nd rfl (by walk_at "loc")) ?_
  refine jit_tup ?_
  walk_at "g"
  refine ⟨_, rfl, ?_⟩
  refine lpp_map D.int (fun o => .bl (st r k o || st r o k)) os rfl (fun o ho => ⟨_, rfl, fun b PP q => ?_⟩) (le_sl (by omega)) ?_
  · walk_at "g"
    refine ⟨rfl, r, k, o, rfl, R, hk, hos o ho, _, rfl, fun e => ?_, fun e => ?_⟩
    · walk_at "g"
      refine ⟨rfl, r, o, k, rfl, R, hos o ho, hk, ?_⟩
      rw [e, Bool.false_or] at q
      exact q
    · rw [e, Bool.true_or] at q
      exact q
  show JA _ _ _ _ _ _
  walk_at "g"
  refine ⟨_, _, rfl, congrArg D.lst (strg_bls r k os), _, rfl, ?_⟩
  rw [any_map_id]
  exact h
abbrev s_lonely_in : Stmt := topS 15
theorem sc_lonely_in : FnScope ["relation", "pairs", "triple", "key"] ["relation"] (defScope s_lonely_in) := ⟨rfl, rfl, rfl, by decide +kernel, rfl, by decide +kernel, by decide +kernel⟩
def sp_lonely_in : DSpec := fun ds S P _ => ∃ r, ds = [relD r] ∧ Rel r ∧ P (lonD r) S
theorem g_lonely_in (T : Bl mg) (G0 : GF P w K mg base 2 "one_sided_in" ["relation"] sp_one_sided_in) (G1 : GF P w K mg base 2 "open_triples" ["relation"] sp_open_triples) (G2 : GF P w K mg base 2 "are_strangers" ["relation", "key", "others"] sp_are_strangers)  (dd : Df K mg "lonely_in" s_lonely_in) : GF P w K mg base 3 "lonely_in" ["relation"] sp_lonely_in := by
  refine gf_of dd sc_lonely_in (fun _ _ _ _ _ _ us hl => match us, hl with | [_], _ => rfl) fun f cdv A outer s H E ds S PP EE hr hgd hl h => ?_
  obtain ⟨r, rfl, R, h⟩ := h
  have hf := R.few
  refine jss_cons (js_set (i := 1) sc_lonely_in.nd rfl (by walk_at "loc") ?_)
  walk_at "g"
  refine ⟨rfl, r, rfl, R, ?_⟩
  refine jss_cons (js_if ?_)
  walk_at "g"
  refine ⟨le_sl (n := 0) (by decide), EqW_nil (osi_fits r) (by decide) ⟨fun e => ?_, fun e => ?_⟩⟩
  · refine jss_one (js_ret ?_)
    walk_at "g"
    unfold lonD at h
    cases q : osi r with
    | nil => rw [q] at e; cases e
    | cons d ds =>
      rw [q] at h
      exact ixW_lst (atI_to (Int.le_refl 0) rfl) h
  have e0 : osi r = [] := by simpa using e
  have hV : lonD r = ((loP r).map tupD).headD .non := by unfold lonD; rw [e0]
  rw [hV] at h
  refine jss_nil ?_
  refine jss_cons (js_forT (.nm 2) passes_own rfl (pg_name (i := 2) sc_lonely_in.nd rfl (by walk_at "loc")) ?_)
  walk_at "i"
  walk_at "g"
  refine ⟨rfl, r, rfl, R, _, rfl, ?_⟩
  rw [otr_eq, e0]
  refine loop_inv (Iv := fun items ρ S' => ∃ (ts : List T3) (o2 o3 : Option D), items = ts.map triD ∧ (∀ t ∈ ts, t ∈ otP r) ∧ ((ts.flatMap fun t => ((ks r).filter fun k => strg r k (t3l t)).map fun k => t3l t ++ [k]).map tupD).headD .non = ((loP r).map tupD).headD .non ∧ S' = S ∧ ρ = [some (relD r), some (.lst []), o2, o3]) ?_ ?_ ⟨otP r, none, none, rfl, fun t ht => ht, rfl, rfl, rfl⟩
  · rintro d ds ρ S' ⟨ts, o2, o3, e1, hts, e2, rfl, rfl⟩
    cases ts with
    | nil => cases e1
    | cons t ts =>
      cases e1
      obtain ⟨⟨h1, h2, h3⟩, _⟩ := mem_ot.mp (hts t (List.mem_cons_self ..))
      have hks : Keys r (t3l t) := fun x hx => by
        simp only [t3l, List.mem_cons, List.not_mem_nil, or_false] at hx
        rcases hx with rfl | rfl | rfl <;> assumption
      refine ⟨_, rfl, jss_one (js_forT (.nm 3) passes_own rfl (pg_name (i := 3) sc_lonely_in.nd rfl (by walk_at "loc")) ?_)⟩
      walk_at "i"
      walk_at "g"
      refine ⟨_, rfl, by omega, by rw [List.length_map]; omega, ?_⟩
      rw [List.length_map, Int.toNat_natCast, irow_keys]
      rw [List.flatMap_cons] at e2
      refine loop_inv (Iv := fun items ρ S2 => ∃ (js : List Int) (o3 : Option D), items = intsD js ∧ Keys r js ∧ ((((js.filter fun k => strg r k (t3l t)).map fun k => t3l t ++ [k]) ++ ts.flatMap fun t => ((ks r).filter fun k => strg r k (t3l t)).map fun k => t3l t ++ [k]).map tupD).headD .non = ((loP r).map tupD).headD .non ∧ S2 = S' ∧ ρ = [some (relD r), some (.lst []), some (triD t), o3]) ?_ ?_ ⟨_, _, rfl, fun x hx => ks_in hx, e2, rfl, rfl⟩
      · rintro d ds ρ S2 ⟨js, o3, e1, hjs, e3, rfl, rfl⟩
        cases js with
        | nil => cases e1
        | cons j js =>
          cases e1
          refine ⟨_, rfl, jss_one (js_if ?_)⟩
          walk_at "g"
          refine ⟨rfl, r, j, t3l t, rfl, R, hjs j (List.mem_cons_self ..), hks, by show 3 ≤ 1000; decide, _, rfl, fun e => ?_, fun e => ?_⟩
          · refine jss_one (js_ret ?_)
            refine je_tup (ja_star ?_)
            walk_at "g"
            refine ⟨_, rfl, ?_⟩
            walk_at "g"
            refine ⟨le_sl (n := 4) (by decide), ?_⟩
            rw [List.filter_cons_of_pos (p := fun k => strg r k (t3l t)) e] at e3
            show RetP PP (.rt (tupD (t3l t ++ [j])) _)
            rw [show tupD (t3l t ++ [j]) = ((loP r).map tupD).headD .non from e3]
            exact h
          · rw [List.filter_cons_of_neg (p := fun k => strg r k (t3l t)) (by rw [e]; exact Bool.false_ne_true)] at e3
            exact jss_nil ⟨js, _, rfl, fun x hx => hjs x (List.mem_cons_of_mem _ hx), e3, rfl, rfl⟩
      · rintro ρ S2 ⟨js, o3, e1, hjs, e3, rfl, rfl⟩
        cases js with
        | cons x xs => cases e1
        | nil => exact ⟨ts, _, _, rfl, fun x hx => hts x (List.mem_cons_of_mem _ hx), e3, rfl, rfl⟩
  · rintro ρ S' ⟨ts, o2, o3, e1, hts, e2, rfl, rfl⟩
    cases ts with
    | cons x hs' => cases e1
    | nil =>
      refine jss_one (js_ret ?_)
      walk_at "g"
      rw [← e2] at h
      exact h
abbrev s_lonely : Stmt := topS 16
theorem sc_lonely : FnScope ["relation"] ["relation"] (defScope s_lonely) := ⟨rfl, rfl, rfl, by decide +kernel, rfl, by decide +kernel, by decide +kernel⟩
def sp_lonely : DSpec := fun ds S P _ => ∃ r, ds = [relD r] ∧ Rel r ∧ P (lonD r) S
theorem g_lonely (T : Bl mg) (G0 : GF P w K mg base 3 "check_relation" ["relation"] sp_check_relation) (G1 : GF P w K mg base 3 "lonely_in" ["relation"] sp_lonely_in)  (dd : Df K mg "lonely" s_lonely) : GF P w K mg base 4 "lonely" ["relation"] sp_lonely := by
  refine gf_of dd sc_lonely (fun _ _ _ _ _ _ us hl => match us, hl with | [_], _ => rfl) fun f cdv A outer s H E ds S PP EE hr hgd hl h => ?_
  obtain ⟨r, rfl, R, h⟩ := h
  refine jss_cons (js_expr ?_)
  walk_at "g"
  refine ⟨rfl, r, rfl, R, ?_⟩
  refine jss_one (js_ret ?_)
  walk_at "g"
  exact ⟨rfl, r, rfl, R, h⟩
end
end O
namespace O
open PySem PySem.Spec PyProof.Rows L2 J
local macro_rules | `(tactic| walk_at "vis") => `(tactic| first | exact Or.inl rfl | exact Or.inr (Or.inl rfl) | exact Or.inr (Or.inr rfl))
local macro_rules | `(tactic| walk_at "loc") => `(tactic| first | exact Or.inl rfl | exact Or.inr rfl)
local macro_rules | `(tactic| walk_at "hu") => `(tactic| exact Room.units (by assumption))
local macro_rules | `(tactic| walk_at "v") => `(tactic| first
  | refine je_var (i := 0) rfl (by walk_at "vis") rfl ?_
  | refine je_var (i := 1) rfl (by walk_at "vis") rfl ?_
  | refine je_var (i := 2) rfl (by walk_at "vis") rfl ?_
  | refine je_var (i := 3) rfl (by walk_at "vis") rfl ?_
  | refine je_var (i := 4) rfl (by walk_at "vis") rfl ?_
  | refine je_var (i := 5) rfl (by walk_at "vis") rfl ?_
  | refine je_var (i := 6) rfl (by walk_at "vis") rfl ?_
  | refine je_var (i := 7) rfl (by walk_at "vis") rfl ?_
  | refine je_var (i := 8) rfl (by walk_at "vis") rfl ?_
  | refine je_var (i := 9) rfl (by walk_at "vis") rfl ?_
  | refine je_var (i := 10) rfl (by walk_at "vis") rfl ?_
  | refine je_var (i := 11) rfl (by walk_at "vis") rfl ?_)
local macro_rules | `(tactic| walk_at "e") => `(tactic| first
  | with_reducible refine je_int ?_
  | with_reducible refine je_non ?_
  | with_reducible refine je_bl ?_
  | with_reducible refine je_str ?_
  | (with_reducible refine sh_name ?_); first | walk_at "v" | refine je_ty (by rfl) (Bl.int (by assumption)) bb_int ?_ | refine je_ty (by rfl) (Bl.bool (by assumption)) bb_bool ?_ | refine je_ty (by rfl) (Bl.list (by assumption)) bb_list ?_
  | (with_reducible refine sh_cons ?_); refine ja_cons ?_
  | with_reducible refine ja_nil ?_
  | with_reducible refine je_add ?_
  | with_reducible refine je_sub ?_
  | with_reducible refine je_mulI ?_
  | with_reducible refine je_mod ?_
  | with_reducible refine je_fdiv ?_
  | with_reducible refine je_powX ?_
  | (with_reducible refine je_eq ?_ ?_); walk_at "hu"
  | (with_reducible refine je_ne ?_ ?_); walk_at "hu"
  | with_reducible refine je_lt ?_
  | with_reducible refine je_le ?_
  | with_reducible refine je_gt ?_
  | with_reducible refine je_ge ?_
  | with_reducible refine je_isN ?_
  | with_reducible refine je_notN ?_
  | (with_reducible refine je_in ?_ ?_); rfl
  | (with_reducible refine je_nin ?_ ?_); rfl
  | (with_reducible refine je_chain ?_ ?_ ?_); first | exact op_le | exact op_lt | exact op_ge | exact op_gt; first | exact op_le | exact op_lt | exact op_ge | exact op_gt
  | with_reducible refine je_one ?_
  | with_reducible refine je_and ?_
  | with_reducible refine je_or ?_
  | with_reducible refine je_not ?_
  | with_reducible refine je_if ?_
  | with_reducible refine je_slice ?_
  | with_reducible refine jo_none ?_
  | with_reducible refine jo_some ?_
  | (with_reducible refine je_item ?_ ?_); exact (fun _ _ => rfl)
  | with_reducible refine je_lst ?_
  | with_reducible refine je_tup ?_
  | (with_reducible refine sh_callx "len" ?_); refine je_len (by rfl) (Bl.len (by assumption)) ?_
  | (with_reducible refine sh_callx "int" ?_); refine je_int1 (by rfl) (Bl.int (by assumption)) ?_
  | (with_reducible refine sh_callx "isinstance" ?_); refine je_isi (by rfl) (Bl.isinstance (by assumption)) ?_
  | (with_reducible refine sh_callx "all" ?_); refine je_all rfl (by rfl) (Bl.all (by assumption)) ?_
  | (with_reducible refine sh_callx "any" ?_); refine je_any rfl (by rfl) (Bl.any (by assumption)) ?_
  | (with_reducible refine sh_callx "abs" ?_); refine je_abs (by rfl) (Bl.abs (by assumption)) ?_
  | (with_reducible refine sh_callx "sorted" ?_); refine je_sorted (by rfl) (Bl.sorted (by assumption)) ?_
  | (with_reducible refine sh_callx "repr" ?_); refine je_repr (by assumption) (Room.units (by assumption)) (by rfl) (Bl.repr (by assumption)) ?_
  | (with_reducible refine sh_lr ?_); refine je_listR rfl (by rfl) (Bl.list (by assumption)) (by rfl) (Bl.range (by assumption)) ?_
  | (with_reducible refine sh_callx "list" ?_); refine je_list (by rfl) (Bl.list (by assumption)) ?_
  | (with_reducible refine sh_two "max" ?_); refine je_max2 rfl (by rfl) (Bl.max (by assumption)) ?_
  | (with_reducible refine sh_callx "max" ?_); refine je_maxL rfl (by rfl) (Bl.max (by assumption)) ?_
  | (with_reducible refine sh_two "min" ?_); refine je_min2 rfl (by rfl) (Bl.min (by assumption)) ?_
  | (with_reducible refine sh_call ?_); refine je_call (by assumption) (Room.mono (by assumption) (by decide)) (by assumption) (by rfl) ?_)
local macro_rules | `(tactic| walk_at "t") => `(tactic| first
  | with_reducible refine jt_w (jw_and ?_)
  | with_reducible refine jt_w (jw_or ?_)
  | with_reducible refine jw_and ?_
  | with_reducible refine jw_or ?_
  | with_reducible refine jw_and1 ?_
  | with_reducible refine jw_or1 ?_
  | with_reducible refine jt_not ?_
  | (with_reducible refine jt_eq ?_ ?_); walk_at "hu"
  | (with_reducible refine jt_ne ?_ ?_); walk_at "hu"
  | with_reducible refine jt_lt ?_
  | with_reducible refine jt_le ?_
  | with_reducible refine jt_gt ?_
  | with_reducible refine jt_ge ?_
  | with_reducible refine jt_isN ?_
  | with_reducible refine jt_notN ?_
  | (with_reducible refine jt_in ?_ ?_); rfl
  | (with_reducible refine jt_nin ?_ ?_); rfl
  | (with_reducible refine jt_chain2 ?_ ?_ ?_); first | exact op_le | exact op_lt | exact op_ge | exact op_gt; first | exact op_le | exact op_lt | exact op_ge | exact op_gt
  | (with_reducible refine sh_t ?_); refine jt_val ?_)
local macro_rules | `(tactic| walk_at "d") => `(tactic| first
  | with_reducible refine intW_mk ?_
  | with_reducible refine addW_int ?_
  | with_reducible refine lenW_lst ?_
  | with_reducible refine intCW_int ?_
  | with_reducible refine intCW_bl ?_
  | with_reducible refine EqW_int ?_
  | with_reducible refine EqW_ints ?_
  | with_reducible refine inW_ints ?_
  | with_reducible refine okT ?_
  | with_reducible refine okF ?_
  | with_reducible refine orT ?_
  | with_reducible refine orF ?_)
local macro_rules | `(tactic| walk_at "i") => `(tactic| first
  | (with_reducible refine sh_it "range" ?_); refine jit_range1 (by rfl) (Bl.range (by assumption)) ?_
  | (with_reducible refine sh_it "enumerate" ?_); refine jit_enum (by rfl) (Bl.enumerate (by assumption)) ?_
  | (with_reducible refine sh_it "zip" ?_); refine jit_zip (by rfl) (Bl.zip (by assumption)) ?_
  | refine jit_list ?_)
local macro_rules | `(tactic| walk_at "g") => `(tactic| repeat (first | walk_at "e" | walk_at "t" | walk_at "d"))
theorem zip_range {α : Type} (xs : List α) (d : α) : (List.range xs.length).zip xs = (List.range xs.length).map fun j => (j, xs.getD j d) := by
  refine List.ext_getElem? fun i => ?_
  rw [List.getElem?_map]
  by_cases h : i < xs.length
  · rw [List.getElem?_eq_getElem (l := List.range xs.length) (by rw [List.length_range]; exact h), List.getElem_range, Option.map_some, List.getElem?_eq_getElem (by rw [List.length_zip, List.length_range]; omega), List.getElem_zip, List.getElem_range, List.getD_eq_getElem?_getD, List.getElem?_eq_getElem h]
    rfl
  · rw [List.getElem?_eq_none (l := List.range xs.length) (by rw [List.length_range]; omega), List.getElem?_eq_none (by rw [List.length_zip, List.length_range]; omega)]
    rfl
theorem mem_enum {r : Mat} (R : Rel r) {i : Nat} {row : List Int} (h : r[i]? = some row) : (((List.range row.length).zip row).filter fun p => decide (p.2 = 1)).map (fun p => D.int (p.1 : Nat)) = intsD (mem r i) := by
  obtain ⟨hl, _, _⟩ := R.row h
  have e : r.getD i [] = row := by rw [List.getD_eq_getElem?_getD, h]; rfl
  rw [zip_range row 0, hl]
  unfold mem ks keysI intsD
  rw [List.filter_map, List.filter_map, List.map_map, List.map_map]
  have : (fun p : Nat × Int => decide (p.2 = 1)) ∘ (fun j => (j, row.getD j 0)) = st r (i : Int) ∘ (fun (j : Nat) => (j : Int)) := by
    funext j
    show decide (row.getD j 0 = 1) = st r (i : Int) (j : Int)
    unfold st ans
    rw [Int.toNat_natCast, Int.toNat_natCast, e]
  rw [this]
  rfl
section
variable {P : Program} {w : World} {K : PySem.W.Frag} {mg : Str → Option Value} {base : Heap}
abbrev s_classes : Stmt := topS 18
theorem sc_classes : FnScope ["relation", "told", "key", "answers", "members", "other", "answer"] ["relation"] (defScope s_classes) := ⟨rfl, rfl, rfl, by decide +kernel, rfl, by decide +kernel, by decide +kernel⟩
def sp_classes : DSpec := fun ds S P _ => ∃ r, ds = [relD r] ∧ Rel r ∧ (hcl r = true → P (.lst ((cls r).map rowD)) S) ∧ (hcl r = false → P .non S)
theorem g_classes (T : Bl mg) (G1 : GF P w K mg base 3 "check_relation" ["relation"] sp_check_relation) (G2 : GF P w K mg base 3 "has_classes" ["relation"] sp_has_classes) (dd : Df K mg "classes" s_classes) : GF P w K mg base 4 "classes" ["relation"] sp_classes := by
  refine gf_of dd sc_classes (fun _ _ _ _ _ _ us hl => match us, hl with | [_], _ => rfl) fun f cdv A outer s H E ds S PP EE hr hgd hl h => ?_
  obtain ⟨r, rfl, R, h1, h2⟩ := h
  have hf := R.few
  refine jss_pl fun hpl => ?_
  refine jss_cons (js_expr ?_)
  walk_at "g"
  refine ⟨rfl, r, rfl, R, ?_⟩
  refine jss_cons (js_if ?_)
  walk_at "g"
  refine ⟨rfl, r, rfl, R, _, rfl, fun e => ?_, fun e => ?_⟩
  · refine jss_one (js_ret ?_)
    walk_at "g"
    exact h2 (by simpa using e)
  have h := h1 (by simpa using e)
  refine jss_nil ?_
  refine jss_cons (js_set (i := 1) sc_classes.nd rfl (by walk_at "loc") ?_)
  refine je_lstP ?_
  walk_at "g"
  refine ⟨le_sl (n := 0) (by decide), ?_⟩
  refine jss_cons (js_forT (.tp [2, 3]) passes_own rfl (pg_tup rfl (pgs_cons (pg_name (i := 2) sc_classes.nd rfl (by walk_at "loc")) (pgs_cons (pg_name (i := 3) sc_classes.nd rfl (by walk_at "loc")) pgs_nil))) ?_)
  walk_at "i"
  walk_at "g"
  refine ⟨_, rfl, ?_⟩
  rw [enum_map]
  refine loop_inv (Iv := fun items ρ S' => ∃ (ps : List (Nat × List Int)) (acc : List (List Int)) (o1 o2 o3 o4 o5 : Option D), items = ps.map (fun p => D.tup [.int (p.1 : Nat), rowD p.2]) ∧ (∀ p ∈ ps, r[p.1]? = some p.2) ∧ acc.length + ps.length ≤ 10 ∧ acc ++ ps.flatMap (cl1 r) = cls r ∧ S' = S ++ [.lst (acc.map rowD)] ∧ ρ = [some (relD r), some (.ptr S.length), o1, o2, o3, o4, o5]) ?_ ?_ ⟨_, [], none, none, none, none, none, rfl, fun p hp => enum_mem hp, by rw [List.length_zip, List.length_range, List.length_nil]; omega, rfl, rfl, rfl⟩
  · rintro d ds ρ S' ⟨ps, acc, o1, o2, o3, o4, o5, e1, hp, hz, e2, rfl, rfl⟩
    cases ps with
    | nil => cases e1
    | cons p ps =>
      cases e1
      rw [List.length_cons] at hz
      rw [List.flatMap_cons] at e2
      have h0 := hp p (List.mem_cons_self ..)
      obtain ⟨hl1, hb1, hd1⟩ := R.row h0
      have hin : In r p.1 := ⟨by omega, by have := (List.getElem?_eq_some_iff.mp h0).1; omega⟩
      refine ⟨_, rfl, jss_cons (js_lc1 (i := 4) rfl rfl (.tp [5, 6]) [("other", 5), ("answer", 6)] rfl sc_classes.nd (by kernel_rfl) (fun b => pg_tup rfl (pgs_cons (pg_name (i := 5) sc_classes.nd rfl (Or.inl rfl)) (pgs_cons (pg_name (i := 6) sc_classes.nd rfl (Or.inl rfl)) pgs_nil))) ?_)⟩
      walk_at "i"
      walk_at "g"
      refine ⟨_, rfl, ?_⟩
      rw [show intsD p.2 = p.2.map D.int from rfl, enum_map]
      refine lpp_filt (fun q : Nat × Int => D.tup [.int (q.1 : Nat), D.int q.2]) (fun q => decide (q.2 = 1)) (fun q => D.int (q.1 : Nat)) _ rfl (fun a ha => ⟨_, rfl, fun b PT q => ?_, fun _ b PP q => ?_⟩) (le_sl ?_) ?_
      · walk_at "g"
        exact q
      · walk_at "g"
        exact q
      · refine Nat.le_trans (List.length_filter_le _ _) ?_
        rw [List.length_zip, List.length_range]; omega
      rw [mem_enum R h0]
      cases hm : mem r p.1 with
      | nil => exact absurd (mem_self R hin) (by rw [hm]; exact List.not_mem_nil)
      | cons m ms =>
        refine jss_one (js_if ?_)
        walk_at "g"
        refine ixW_lst (d := .int m) (atI_ints (atI_to (xs := m :: ms) (x := 0) (v := m) (Int.le_refl _) rfl)) ?_
        walk_at "g"
        refine ⟨fun e => ?_, fun e => ?_⟩
        · refine jss_one (js_expr (je_append ?_))
          walk_at "g"
          refine ⟨_, _, rfl, last_at, ?_⟩
          walk_at "g"
          refine ⟨_, _, rfl, last_at, ?_, ?_⟩
          · rw [List.length_map]
            exact le_sl (by omega)
          · rw [last_set]
            have ee : cl1 r p = [m :: ms] := by
              unfold cl1
              rw [hm, List.head?_cons, if_pos (by rw [of_decide_eq_true e])]
            rw [ee] at e2
            exact ⟨ps, acc ++ [m :: ms], _, _, _, _, _, rfl, fun q hq => hp q (List.mem_cons_of_mem _ hq), by rw [List.length_append, List.length_cons, List.length_nil]; omega, by rw [List.append_assoc]; exact e2, by rw [List.map_append]; rfl, rfl⟩
        · have ee : cl1 r p = [] := by
            unfold cl1
            rw [hm, List.head?_cons, if_neg (by intro z; exact of_decide_eq_false e (Option.some.inj z))]
          rw [ee] at e2
          exact jss_nil ⟨ps, acc, _, _, _, _, _, rfl, fun q hq => hp q (List.mem_cons_of_mem _ hq), by omega, e2, rfl, rfl⟩
  · rintro ρ S' ⟨ps, acc, o1, o2, o3, o4, o5, e1, hp, hz, e2, rfl, rfl⟩
    cases ps with
    | cons x hs' => cases e1
    | nil =>
      rw [List.flatMap_nil, List.append_nil] at e2
      subst e2
      refine jss_less [some (relD r), some (.ptr S.length)] ⟨rfl, rfl, trivial⟩ ?_
      refine jss_rest (i := 1) rfl (Nat.le_refl _) (pl_rows _) hpl ⟨pl_rel r, trivial⟩ ?_
      refine jss_one (js_ret ?_)
      walk_at "g"
      exact h
/-! the same, its lists of the store -/
/-- new lists of the store: where they stand, what they hold -/
structure Own (S : Store) (ext : List Cell) (idx : List Nat) (xss : List (List Int)) : Prop where
  len : idx.length = xss.length
  new : ∀ j ∈ idx, S.length < j
  inc : idx.Pairwise (· < ·)
  lt : ∀ j ∈ idx, j < S.length + 1 + ext.length
  at_ : ∀ (i : Nat) j xs, idx[i]? = some j → xss[i]? = some xs → ext[j - (S.length + 1)]? = some (.lst (intsD xs))
  all : ∀ c ∈ ext, ∃ xs, c = .lst (intsD xs)
theorem mid_at {S E : Store} {c : Cell} : (S ++ c :: E)[S.length]? = some c := by rw [List.getElem?_append_right (Nat.le_refl _), Nat.sub_self]; rfl
theorem mid_set {S E : Store} {c c' : Cell} : (S ++ c :: E).set S.length c' = S ++ c' :: E := by rw [List.set_append_right _ _ (Nat.le_refl _), Nat.sub_self]; rfl
theorem mid_far {S E : Store} {c : Cell} {j : Nat} (h : S.length < j) : (S ++ c :: E)[j]? = E[j - (S.length + 1)]? := by
  rw [List.getElem?_append_right (Nat.le_of_lt h)]
  obtain ⟨k, rfl⟩ : ∃ k, j = S.length + 1 + k := ⟨j - (S.length + 1), by omega⟩
  rw [show S.length + 1 + k - S.length = k + 1 by omega, List.getElem?_cons_succ, show S.length + 1 + k - (S.length + 1) = k by omega]
theorem Own.more {S : Store} {ext : List Cell} {idx : List Nat} {xss : List (List Int)} (o : Own S ext idx xss) (xs : List Int) : Own S (ext ++ [.lst (intsD xs)]) idx xss where
  len := o.len
  new := o.new
  inc := o.inc
  lt := fun j hj => by rw [List.length_append]; have := o.lt j hj; omega
  at_ := fun i j ys h1 h2 => by
    have := o.at_ i j ys h1 h2
    rw [List.getElem?_append_left (List.getElem?_eq_some_iff.mp this).1]; exact this
  all := fun c hc => by
    rcases List.mem_append.mp hc with h | h
    · exact o.all c h
    · exact ⟨xs, List.mem_singleton.mp h⟩
theorem Own.take {S : Store} {ext : List Cell} {idx : List Nat} {xss : List (List Int)} (o : Own S ext idx xss) (xs : List Int) : Own S (ext ++ [.lst (intsD xs)]) (idx ++ [S.length + 1 + ext.length]) (xss ++ [xs]) where
  len := by rw [List.length_append, List.length_append, o.len]; rfl
  new := fun j hj => by
    rcases List.mem_append.mp hj with h | h
    · exact o.new j h
    · cases List.mem_singleton.mp h; omega
  inc := by
    rw [List.pairwise_append]
    refine ⟨o.inc, List.pairwise_singleton .., fun a ha b hb => ?_⟩
    cases List.mem_singleton.mp hb
    exact o.lt a ha
  lt := fun j hj => by
    rw [List.length_append, List.length_cons, List.length_nil]
    rcases List.mem_append.mp hj with h | h
    · have := o.lt j h; omega
    · cases List.mem_singleton.mp h; omega
  at_ := fun i j ys h1 h2 => by
    rcases Nat.lt_or_ge i idx.length with h | h
    · rw [List.getElem?_append_left h] at h1
      rw [List.getElem?_append_left (by rw [← o.len]; exact h)] at h2
      have := o.at_ i j ys h1 h2
      rw [List.getElem?_append_left (List.getElem?_eq_some_iff.mp this).1]; exact this
    · have hi := (List.getElem?_eq_some_iff.mp h1).1
      rw [List.length_append, List.length_cons, List.length_nil] at hi
      have e : i = idx.length := by omega
      subst e
      rw [List.getElem?_append_right (Nat.le_refl _), Nat.sub_self] at h1
      rw [o.len, List.getElem?_append_right (Nat.le_refl _), Nat.sub_self] at h2
      cases h1; cases h2
      rw [show S.length + 1 + ext.length - (S.length + 1) = ext.length by omega]
      exact last_at
  all := (o.more xs).all
def sp_classesO : DSpec := fun ds S P _ => ∃ r, ds = [relD r] ∧ Rel r ∧ (hcl r = true → ∀ ext idx, Own S ext idx (cls r) → P (.lst (idx.map D.ptr)) (S ++ .gone :: ext)) ∧ (hcl r = false → P .non S)
theorem g_classesO (T : Bl mg) (G1 : GF P w K mg base 3 "check_relation" ["relation"] sp_check_relation) (G2 : GF P w K mg base 3 "has_classes" ["relation"] sp_has_classes) (dd : Df K mg "classes" s_classes) : GF P w K mg base 4 "classes" ["relation"] sp_classesO := by
  refine gf_of dd sc_classes (fun _ _ _ _ _ _ us hl => match us, hl with | [_], _ => rfl) fun f cdv A outer s H E ds S PP EE hr hgd hl h => ?_
  obtain ⟨r, rfl, R, h1, h2⟩ := h
  have hf := R.few
  refine jss_pl fun hpl => ?_
  refine jss_cons (js_expr ?_)
  walk_at "g"
  refine ⟨rfl, r, rfl, R, ?_⟩
  refine jss_cons (js_if ?_)
  walk_at "g"
  refine ⟨rfl, r, rfl, R, _, rfl, fun e => ?_, fun e => ?_⟩
  · refine jss_one (js_ret ?_)
    walk_at "g"
    exact h2 (by simpa using e)
  have h := h1 (by simpa using e)
  refine jss_nil ?_
  refine jss_cons (js_set (i := 1) sc_classes.nd rfl (by walk_at "loc") ?_)
  refine je_lstP ?_
  walk_at "g"
  refine ⟨le_sl (n := 0) (by decide), ?_⟩
  refine jss_cons (js_forT (.tp [2, 3]) passes_own rfl (pg_tup rfl (pgs_cons (pg_name (i := 2) sc_classes.nd rfl (by walk_at "loc")) (pgs_cons (pg_name (i := 3) sc_classes.nd rfl (by walk_at "loc")) pgs_nil))) ?_)
  walk_at "i"
  walk_at "g"
  refine ⟨_, rfl, ?_⟩
  rw [enum_map]
  refine loop_inv (Iv := fun items ρ S' => ∃ (ps : List (Nat × List Int)) (acc : List (List Int)) (ext : List Cell) (idx : List Nat) (o1 o2 o3 o4 o5 : Option D), items = ps.map (fun p => D.tup [.int (p.1 : Nat), rowD p.2]) ∧ (∀ p ∈ ps, r[p.1]? = some p.2) ∧ acc.length + ps.length ≤ 10 ∧ acc ++ ps.flatMap (cl1 r) = cls r ∧ Own S ext idx acc ∧ S' = S ++ .lst (idx.map D.ptr) :: ext ∧ ρ = [some (relD r), some (.ptr S.length), o1, o2, o3, o4, o5]) ?_ ?_ ⟨_, [], [], [], none, none, none, none, none, rfl, fun p hp => enum_mem hp, by rw [List.length_zip, List.length_range, List.length_nil]; omega, rfl, ⟨rfl, (fun _ h => nomatch h), List.Pairwise.nil, (fun _ h => nomatch h), (fun i j xs h => by simp at h), (fun _ h => nomatch h)⟩, rfl, rfl⟩
  · rintro d ds ρ S' ⟨ps, acc, ext, idx, o1, o2, o3, o4, o5, e1, hp, hz, e2, ho, rfl, rfl⟩
    cases ps with
    | nil => cases e1
    | cons p ps =>
      cases e1
      rw [List.length_cons] at hz
      rw [List.flatMap_cons] at e2
      have h0 := hp p (List.mem_cons_self ..)
      obtain ⟨hl1, hb1, hd1⟩ := R.row h0
      have hin : In r p.1 := ⟨by omega, by have := (List.getElem?_eq_some_iff.mp h0).1; omega⟩
      refine ⟨_, rfl, jss_cons (js_lc1P (i := 4) rfl rfl (.tp [5, 6]) [("other", 5), ("answer", 6)] rfl sc_classes.nd (by kernel_rfl) (fun b => pg_tup rfl (pgs_cons (pg_name (i := 5) sc_classes.nd rfl (Or.inl rfl)) (pgs_cons (pg_name (i := 6) sc_classes.nd rfl (Or.inl rfl)) pgs_nil))) ?_)⟩
      walk_at "i"
      walk_at "g"
      refine ⟨_, rfl, ?_⟩
      rw [show intsD p.2 = p.2.map D.int from rfl, enum_map]
      refine lpp_filt (fun q : Nat × Int => D.tup [.int (q.1 : Nat), D.int q.2]) (fun q => decide (q.2 = 1)) (fun q => D.int (q.1 : Nat)) _ rfl (fun a ha => ⟨_, rfl, fun b PT q => ?_, fun _ b PP q => ?_⟩) (le_sl ?_) ?_
      · walk_at "g"
        exact q
      · walk_at "g"
        exact q
      · refine Nat.le_trans (List.length_filter_le _ _) ?_
        rw [List.length_zip, List.length_range]; omega
      rw [mem_enum R h0]
      cases hm : mem r p.1 with
      | nil => exact absurd (mem_self R hin) (by rw [hm]; exact List.not_mem_nil)
      | cons m ms =>
        refine jss_one (js_if ?_)
        walk_at "g"
        refine ixW_ptr (d := .int m) last_at (atI_ints (atI_to (xs := m :: ms) (x := 0) (v := m) (Int.le_refl _) rfl)) ?_
        walk_at "g"
        refine ⟨fun e => ?_, fun e => ?_⟩
        · refine jss_one (js_expr (je_append ?_))
          walk_at "g"
          refine ⟨_, _, rfl, by rw [List.append_assoc, List.cons_append]; exact mid_at, ?_⟩
          walk_at "g"
          refine ⟨_, _, rfl, by rw [List.append_assoc, List.cons_append]; exact mid_at, ?_, ?_⟩
          · rw [List.length_map, ho.len]
            exact le_sl (by omega)
          · rw [List.append_assoc, List.cons_append, mid_set]
            have ee : cl1 r p = [m :: ms] := by
              unfold cl1
              rw [hm, List.head?_cons, if_pos (by rw [of_decide_eq_true e])]
            rw [ee] at e2
            exact ⟨ps, acc ++ [m :: ms], _, _, _, _, _, _, _, rfl, fun q hq => hp q (List.mem_cons_of_mem _ hq), by rw [List.length_append, List.length_cons, List.length_nil]; omega, by rw [List.append_assoc]; exact e2, ho.take (m :: ms), by rw [List.map_append, List.length_append, List.length_cons, show S.length + (ext.length + 1) = S.length + 1 + ext.length by omega]; rfl, rfl⟩
        · have ee : cl1 r p = [] := by
            unfold cl1
            rw [hm, List.head?_cons, if_neg (by intro z; exact of_decide_eq_false e (Option.some.inj z))]
          rw [ee] at e2
          exact jss_nil ⟨ps, acc, _, idx, _, _, _, _, _, rfl, fun q hq => hp q (List.mem_cons_of_mem _ hq), by omega, e2, ho.more (m :: ms), by rw [List.append_assoc, List.cons_append], rfl⟩
  · rintro ρ S' ⟨ps, acc, ext, idx, o1, o2, o3, o4, o5, e1, hp, hz, e2, ho, rfl, rfl⟩
    cases ps with
    | cons x hs' => cases e1
    | nil =>
      rw [List.flatMap_nil, List.append_nil] at e2
      subst e2
      refine jss_less [some (relD r), some (.ptr S.length)] ⟨rfl, rfl, trivial⟩ ?_
      refine jss_restG (i := 1) (k := S.length) rfl mid_at (Nat.le_refl _) (np_ptrs fun j hj z => by have := ho.new j hj; omega) (fun j c hj e => ?_) ⟨(pl_rel r).np, trivial⟩ ?_
      · rcases Nat.lt_or_ge j S.length with h1 | h1
        · rw [List.getElem?_append_left h1] at e
          exact (hpl c (List.mem_of_getElem? e)).np
        · rw [mid_far (by omega)] at e
          obtain ⟨xs, rfl⟩ := ho.all c (List.mem_of_getElem? e)
          exact np_ints xs
      rw [mid_set]
      refine jss_one (js_ret ?_)
      walk_at "g"
      exact h ext idx ho
end
end O
namespace O
open PySem PySem.Spec PyProof.Rows L2 J
local macro_rules | `(tactic| walk_at "vis") => `(tactic| first | exact Or.inl rfl | exact Or.inr (Or.inl rfl) | exact Or.inr (Or.inr rfl))
local macro_rules | `(tactic| walk_at "loc") => `(tactic| first | exact Or.inl rfl | exact Or.inr rfl)
local macro_rules | `(tactic| walk_at "hu") => `(tactic| exact Room.units (by assumption))
local macro_rules | `(tactic| walk_at "v") => `(tactic| first
  | refine je_var (i := 0) rfl (by walk_at "vis") rfl ?_
  | refine je_var (i := 1) rfl (by walk_at "vis") rfl ?_
  | refine je_var (i := 2) rfl (by walk_at "vis") rfl ?_
  | refine je_var (i := 3) rfl (by walk_at "vis") rfl ?_
  | refine je_var (i := 4) rfl (by walk_at "vis") rfl ?_
  | refine je_var (i := 5) rfl (by walk_at "vis") rfl ?_
  | refine je_var (i := 6) rfl (by walk_at "vis") rfl ?_
  | refine je_var (i := 7) rfl (by walk_at "vis") rfl ?_
  | refine je_var (i := 8) rfl (by walk_at "vis") rfl ?_
  | refine je_var (i := 9) rfl (by walk_at "vis") rfl ?_
  | refine je_var (i := 10) rfl (by walk_at "vis") rfl ?_
  | refine je_var (i := 11) rfl (by walk_at "vis") rfl ?_)
local macro_rules | `(tactic| walk_at "e") => `(tactic| first
  | with_reducible refine je_int ?_
  | with_reducible refine je_non ?_
  | with_reducible refine je_bl ?_
  | with_reducible refine je_str ?_
  | (with_reducible refine sh_name ?_); first | walk_at "v" | refine je_ty (by rfl) (Bl.int (by assumption)) bb_int ?_ | refine je_ty (by rfl) (Bl.bool (by assumption)) bb_bool ?_ | refine je_ty (by rfl) (Bl.list (by assumption)) bb_list ?_
  | (with_reducible refine sh_cons ?_); refine ja_cons ?_
  | with_reducible refine ja_nil ?_
  | with_reducible refine je_add ?_
  | with_reducible refine je_sub ?_
  | with_reducible refine je_mulI ?_
  | with_reducible refine je_mod ?_
  | with_reducible refine je_fdiv ?_
  | with_reducible refine je_powX ?_
  | (with_reducible refine je_eq ?_ ?_); walk_at "hu"
  | (with_reducible refine je_ne ?_ ?_); walk_at "hu"
  | with_reducible refine je_lt ?_
  | with_reducible refine je_le ?_
  | with_reducible refine je_gt ?_
  | with_reducible refine je_ge ?_
  | with_reducible refine je_isN ?_
  | with_reducible refine je_notN ?_
  | (with_reducible refine je_in ?_ ?_); rfl
  | (with_reducible refine je_nin ?_ ?_); rfl
  | (with_reducible refine je_chain ?_ ?_ ?_); first | exact op_le | exact op_lt | exact op_ge | exact op_gt; first | exact op_le | exact op_lt | exact op_ge | exact op_gt
  | with_reducible refine je_one ?_
  | with_reducible refine je_and ?_
  | with_reducible refine je_or ?_
  | with_reducible refine je_not ?_
  | with_reducible refine je_if ?_
  | with_reducible refine je_slice ?_
  | with_reducible refine jo_none ?_
  | with_reducible refine jo_some ?_
  | (with_reducible refine je_item ?_ ?_); exact (fun _ _ => rfl)
  | with_reducible refine je_lst ?_
  | with_reducible refine je_tup ?_
  | (with_reducible refine sh_callx "len" ?_); refine je_len (by rfl) (Bl.len (by assumption)) ?_
  | (with_reducible refine sh_callx "int" ?_); refine je_int1 (by rfl) (Bl.int (by assumption)) ?_
  | (with_reducible refine sh_callx "isinstance" ?_); refine je_isi (by rfl) (Bl.isinstance (by assumption)) ?_
  | (with_reducible refine sh_callx "all" ?_); refine je_all rfl (by rfl) (Bl.all (by assumption)) ?_
  | (with_reducible refine sh_callx "any" ?_); refine je_any rfl (by rfl) (Bl.any (by assumption)) ?_
  | (with_reducible refine sh_callx "abs" ?_); refine je_abs (by rfl) (Bl.abs (by assumption)) ?_
  | (with_reducible refine sh_callx "sorted" ?_); refine je_sorted (by rfl) (Bl.sorted (by assumption)) ?_
  | (with_reducible refine sh_callx "repr" ?_); refine je_repr (by assumption) (Room.units (by assumption)) (by rfl) (Bl.repr (by assumption)) ?_
  | (with_reducible refine sh_lr ?_); refine je_listR rfl (by rfl) (Bl.list (by assumption)) (by rfl) (Bl.range (by assumption)) ?_
  | (with_reducible refine sh_callx "list" ?_); refine je_list (by rfl) (Bl.list (by assumption)) ?_
  | (with_reducible refine sh_two "max" ?_); refine je_max2 rfl (by rfl) (Bl.max (by assumption)) ?_
  | (with_reducible refine sh_callx "max" ?_); refine je_maxL rfl (by rfl) (Bl.max (by assumption)) ?_
  | (with_reducible refine sh_two "min" ?_); refine je_min2 rfl (by rfl) (Bl.min (by assumption)) ?_
  | (with_reducible refine sh_call ?_); refine je_call (by assumption) (Room.mono (by assumption) (by decide)) (by assumption) (by rfl) ?_)
local macro_rules | `(tactic| walk_at "t") => `(tactic| first
  | with_reducible refine jt_w (jw_and ?_)
  | with_reducible refine jt_w (jw_or ?_)
  | with_reducible refine jw_and ?_
  | with_reducible refine jw_or ?_
  | with_reducible refine jw_and1 ?_
  | with_reducible refine jw_or1 ?_
  | with_reducible refine jt_not ?_
  | (with_reducible refine jt_eq ?_ ?_); walk_at "hu"
  | (with_reducible refine jt_ne ?_ ?_); walk_at "hu"
  | with_reducible refine jt_lt ?_
  | with_reducible refine jt_le ?_
  | with_reducible refine jt_gt ?_
  | with_reducible refine jt_ge ?_
  | with_reducible refine jt_isN ?_
  | with_reducible refine jt_notN ?_
  | (with_reducible refine jt_in ?_ ?_); rfl
  | (with_reducible refine jt_nin ?_ ?_); rfl
  | (with_reducible refine jt_chain2 ?_ ?_ ?_); first | exact op_le | exact op_lt | exact op_ge | exact op_gt; first | exact op_le | exact op_lt | exact op_ge | exact op_gt
  | (with_reducible refine sh_t ?_); refine jt_val ?_)
local macro_rules | `(tactic| walk_at "d") => `(tactic| first
  | with_reducible refine intW_mk ?_
  | with_reducible refine addW_int ?_
  | with_reducible refine lenW_lst ?_
  | with_reducible refine intCW_int ?_
  | with_reducible refine intCW_bl ?_
  | with_reducible refine EqW_int ?_
  | with_reducible refine EqW_ints ?_
  | with_reducible refine inW_ints ?_
  | with_reducible refine okT ?_
  | with_reducible refine okF ?_
  | with_reducible refine orT ?_
  | with_reducible refine orF ?_)
local macro_rules | `(tactic| walk_at "i") => `(tactic| first
  | (with_reducible refine sh_it "range" ?_); refine jit_range1 (by rfl) (Bl.range (by assumption)) ?_
  | (with_reducible refine sh_it "enumerate" ?_); refine jit_enum (by rfl) (Bl.enumerate (by assumption)) ?_
  | (with_reducible refine sh_it "zip" ?_); refine jit_zip (by rfl) (Bl.zip (by assumption)) ?_
  | refine jit_list ?_)
local macro_rules | `(tactic| walk_at "g") => `(tactic| repeat (first | walk_at "e" | walk_at "t" | walk_at "d"))
def tG (r : Mat) (x y : Int) : List T3 := ((ks r).filter fun z => st r y z && !st r x z).map fun z => (x, y, z)
def tF (r : Mat) (x : Int) : List T3 := ((ks r).filter (st r x)).flatMap (tG r x)
theorem ot_tF (r : Mat) : otP r = (ks r).flatMap (tF r) := otP_eq r
def ddr (r : Mat) : List (List Int) := ((List.range r.length).zip r).foldl (fun acc p => addNew acc (mem r p.1)) []
theorem units65 {k : Nat} {A : Around} (r : Room k A) : A.units + 65 < cLine := by have := r.un; omega
theorem any_rows (acc : List (List Int)) (m : List Int) : ((acc.map rowD).any fun z => eqB z (rowD m)) = decide (m ∈ acc) := by
  induction acc with
  | nil => simp
  | cons a acc ih =>
    rw [List.map_cons, List.any_cons, ih, eqB_ints]
    by_cases h : a = m
    · subst h; simp
    · have h' : ¬ m = a := fun z => h z.symm
      simp [h, h']
theorem addNew_len {acc : List (List Int)} {m : List Int} : (addNew acc m).length ≤ acc.length + 1 := by unfold addNew; split <;> simp
theorem fits_rows (rs : List (List Int)) : Fits 2 (.lst (rs.map rowD)) := fits_lst fun d hd => by
  obtain ⟨row, _, rfl⟩ := List.mem_map.mp hd
  exact fits_ints row
theorem zip_snd (r : Mat) : r.map rowD = ((List.range r.length).zip r).map fun p => rowD p.2 := by
  have h : ((List.range r.length).zip r).map (·.2) = r := List.map_snd_zip (by simp)
  conv => lhs; rw [← h]
  rw [List.map_map]; rfl
section
variable {P : Program} {w : World} {K : PySem.W.Frag} {mg : Str → Option Value} {base : Heap}
abbrev s_l_triples : Stmt := topS 24
theorem sc_l_triples : FnScope ["_law_a_relation", "_law_told", "_law_x", "_law_y", "_law_key", "_law_z"] ["_law_a_relation"] (defScope s_l_triples) := ⟨rfl, rfl, rfl, by decide +kernel, rfl, by decide +kernel, by decide +kernel⟩
def sp_l_triples : DSpec := fun ds S P _ => ∃ r, ds = [relD r] ∧ Rel r ∧ P (.lst ((otP r).map triD)) S
theorem g_l_triples (T : Bl mg)   (dd : Df K mg "_law_triples" s_l_triples) : GF P w K mg base 1 "_law_triples" ["_law_a_relation"] sp_l_triples := by
  refine gf_of dd sc_l_triples (fun _ _ _ _ _ _ us hl => match us, hl with | [_], _ => rfl) fun f cdv A outer s H E ds S PP EE hr hgd hl h => ?_
  obtain ⟨r, rfl, R, h⟩ := h
  have hf := R.few
  have hot := otP_len R
  refine jss_cons (js_set (i := 1) sc_l_triples.nd rfl (by walk_at "loc") ?_)
  walk_at "g"
  refine ⟨le_sl (n := 0) (by decide), ?_⟩
  refine jss_cons (js_forT (.nm 2) passes_own rfl (pg_name (i := 2) sc_l_triples.nd rfl (by walk_at "loc")) ?_)
  walk_at "i"
  walk_at "g"
  refine ⟨_, rfl, by omega, by rw [List.length_map]; omega, ?_⟩
  rw [List.length_map, Int.toNat_natCast, irow_keys]
  refine loop_inv (Iv := fun items ρ S' => ∃ (js : List Int) (acc : List T3) (o2 o3 o4 o5 : Option D), items = intsD js ∧ Keys r js ∧ acc ++ js.flatMap (tF r) = otP r ∧ S' = S ∧ ρ = [some (relD r), some (.lst (acc.map triD)), o2, o3, o4, o5]) ?_ ?_ ⟨_, [], none, none, none, none, rfl, fun x hx => ks_in hx, (ot_tF r).symm, rfl, rfl⟩
  · rintro d ds ρ S' ⟨js, acc, o2, o3, o4, o5, e1, hjs, e2, rfl, rfl⟩
    cases js with
    | nil => cases e1
    | cons x js =>
      cases e1
      have hx := hjs x (List.mem_cons_self ..)
      rw [List.flatMap_cons] at e2
      refine ⟨_, rfl, jss_one (js_forT (.nm 3) passes_own rfl (pg_name (i := 3) sc_l_triples.nd rfl (by walk_at "loc")) ?_)⟩
      refine jit_list (je_lc1 (.nm 4) [("_law_key", 4)] rfl sc_l_triples.nd (by kernel_rfl) (fun b => pg_name (i := 4) sc_l_triples.nd rfl (by walk_at "loc")) ?_)
      walk_at "i"
      walk_at "g"
      refine ⟨_, rfl, by omega, by rw [List.length_map]; omega, ?_⟩
      rw [List.length_map, Int.toNat_natCast, irow_keys]
      refine lpp_filt D.int (st r x) D.int (ks r) rfl (fun y hy => ⟨_, rfl, fun b PT q => ?_, fun _ b PP q => ?_⟩) (le_sl (Nat.le_trans (List.length_filter_le _ _) (by rw [keysI_len]; omega))) ?_
      · walk_at "g"
        refine ixW_lst (rel_at hx) ?_
        walk_at "g"
        refine ixW_lst (row_at R hx (ks_in hy)) ?_
        walk_at "g"
        exact q
      · walk_at "g"
        exact q
      refine ⟨_, rfl, ?_⟩
      refine loop_inv (Iv := fun items ρ S2 => ∃ (ys : List Int) (acc : List T3) (o3 o4 o5 : Option D), items = intsD ys ∧ Keys r ys ∧ acc ++ ys.flatMap (tG r x) ++ js.flatMap (tF r) = otP r ∧ S2 = S' ∧ ρ = [some (relD r), some (.lst (acc.map triD)), some (.int x), o3, o4, o5]) ?_ ?_ ⟨_, acc, _, _, _, rfl, fun y hy => ks_in (List.mem_filter.mp hy).1, by rw [List.append_assoc]; exact e2, rfl, rfl⟩
      · rintro d ds ρ S2 ⟨ys, acc, o3, o4, o5, e1, hys, e3, rfl, rfl⟩
        cases ys with
        | nil => cases e1
        | cons y ys =>
          cases e1
          have hy := hys y (List.mem_cons_self ..)
          rw [List.flatMap_cons] at e3
          have hlen := congrArg List.length e3
          simp only [List.length_append] at hlen
          refine ⟨_, rfl, jss_one (js_set (i := 1) sc_l_triples.nd rfl (by walk_at "loc") ?_)⟩
          walk_at "g"
          refine je_lc1 (.nm 5) [("_law_z", 5)] rfl sc_l_triples.nd (by kernel_rfl) (fun b => pg_name (i := 5) sc_l_triples.nd rfl (by walk_at "loc")) ?_
          walk_at "i"
          walk_at "g"
          refine ⟨_, rfl, by omega, by rw [List.length_map]; omega, ?_⟩
          rw [List.length_map, Int.toNat_natCast, irow_keys]
          refine lpp_filt D.int (fun z => st r y z && !st r x z) (fun z => triD (x, y, z)) (ks r) rfl (fun z hz => ⟨_, rfl, fun b PT q => ?_, fun _ b PP q => ?_⟩) (le_sl (Nat.le_trans (List.length_filter_le _ _) (by rw [keysI_len]; omega))) ?_
          · walk_at "g"
            refine ixW_lst (rel_at hy) ?_
            walk_at "g"
            refine ixW_lst (row_at R hy (ks_in hz)) ?_
            walk_at "g"
            refine ixW_lst (rel_at hx) ?_
            walk_at "g"
            refine ixW_lst (row_at R hx (ks_in hz)) ?_
            walk_at "g"
            rw [← ans_gt R] at q
            exact q
          · walk_at "g"
            exact ⟨le_sl (n := 3) (by decide), q⟩
          have em : ((ks r).filter fun z => st r y z && !st r x z).map (fun z => triD (x, y, z)) = (tG r x y).map triD := by unfold tG; rw [List.map_map]; rfl
          rw [em]
          refine addW_lst (by rw [List.length_map, List.length_map]; exact le_sl (by omega)) ?_
          rw [← List.map_append]
          exact ⟨ys, acc ++ tG r x y, _, _, _, rfl, fun z hz => hys z (List.mem_cons_of_mem _ hz), by rw [← e3]; simp only [List.append_assoc], rfl, rfl⟩
      · rintro ρ S2 ⟨ys, acc, o3, o4, o5, e1, hys, e3, rfl, rfl⟩
        cases ys with
        | cons x xs => cases e1
        | nil =>
          rw [List.flatMap_nil, List.append_nil] at e3
          exact ⟨js, acc, _, _, _, _, rfl, fun z hz => hjs z (List.mem_cons_of_mem _ hz), e3, rfl, rfl⟩
  · rintro ρ S' ⟨js, acc, o2, o3, o4, o5, e1, hjs, e2, rfl, rfl⟩
    cases js with
    | cons x xs => cases e1
    | nil =>
      rw [List.flatMap_nil, List.append_nil] at e2
      refine jss_one (js_ret ?_)
      walk_at "g"
      rw [e2]
      exact h
abbrev s_l_strangers : Stmt := topS 25
theorem sc_l_strangers : FnScope ["_law_a_relation", "_law_key", "_law_others", "_law_other"] ["_law_a_relation", "_law_key", "_law_others"] (defScope s_l_strangers) := ⟨rfl, rfl, rfl, by decide +kernel, rfl, by decide +kernel, by decide +kernel⟩
def sp_l_strangers : DSpec := fun ds S P _ => ∃ r k os, ds = [relD r, .int k, tupD os] ∧ Rel r ∧ In r k ∧ Keys r os ∧ os.length ≤ 1000 ∧ P (.bl (strg r k os)) S
theorem g_l_strangers (T : Bl mg)   (dd : Df K mg "_law_strangers" s_l_strangers) : GF P w K mg base 1 "_law_strangers" ["_law_a_relation", "_law_key", "_law_others"] sp_l_strangers := by
  refine gf_of dd sc_l_strangers (fun _ _ _ _ _ _ us hl => match us, hl with | [_, _, _], _ => rfl) fun f cdv A outer s H E ds S PP EE hr hgd hl h => ?_
  obtain ⟨r, k, os, rfl, R, hk, hos, hz, h⟩ := h
  refine jss_one (js_ret ?_)
  walk_at "g"
  refine je_lc1 (.nm 3) [("_law_other", 3)] rfl sc_l_strangers.nd (by kernel_rfl) (fun b => pg_name (i := 3) sc_l_strangers.nd rfl (by walk_at "loc")) ?_
  refine jit_tup ?_
  walk_at "g"
  refine ⟨_, rfl, ?_⟩
  refine lpp_filt D.int (fun o => st r k o || st r o k) D.int os rfl (fun o ho => ⟨_, rfl, fun b PT q => ?_, fun _ b PP q => ?_⟩) (le_sl (Nat.le_trans (List.length_filter_le _ _) (by omega))) ?_
  · walk_at "g"
    refine ixW_lst (rel_at hk) ?_
    walk_at "g"
    refine ixW_lst (row_at R hk (hos o ho)) ?_
    walk_at "g"
    refine ixW_lst (rel_at (hos o ho)) ?_
    walk_at "g"
    refine ixW_lst (row_at R (hos o ho) hk) ?_
    walk_at "g"
    rw [← ans_sum R] at q
    exact q
  · walk_at "g"
    exact q
  show JE _ _ _ _ _ _
  walk_at "g"
  refine ⟨le_sl (n := 0) (by decide), EqW_nil (fits_ints (os.filter fun o => st r k o || st r o k)) (by decide) ?_⟩
  have e : (List.map D.int (os.filter fun o => st r k o || st r o k)).isEmpty = strg r k os := by
    unfold strg
    rw [Bool.eq_iff_iff]
    simp [List.isEmpty_iff, List.filter_eq_nil_iff]
  rw [e]
  exact h
abbrev s_l_lonely : Stmt := topS 26
theorem sc_l_lonely : FnScope ["_law_a_relation", "_law_pairs", "_law_triples_here", "_law_told", "_law_triple", "_law_key"] ["_law_a_relation", "_law_pairs", "_law_triples_here"] (defScope s_l_lonely) := ⟨rfl, rfl, rfl, by decide +kernel, rfl, by decide +kernel, by decide +kernel⟩
def sp_l_lonely : DSpec := fun ds S P _ => ∃ r, ds = [relD r, .lst (osi r), .lst ((otP r).map triD)] ∧ Rel r ∧ P (lonD r) S
theorem g_l_lonely (T : Bl mg) (G0 : GF P w K mg base 1 "_law_strangers" ["_law_a_relation", "_law_key", "_law_others"] sp_l_strangers)  (dd : Df K mg "_law_lonely" s_l_lonely) : GF P w K mg base 2 "_law_lonely" ["_law_a_relation", "_law_pairs", "_law_triples_here"] sp_l_lonely := by
  refine gf_of dd sc_l_lonely (fun _ _ _ _ _ _ us hl => match us, hl with | [_, _, _], _ => rfl) fun f cdv A outer s H E ds S PP EE hr hgd hl h => ?_
  obtain ⟨r, rfl, R, h⟩ := h
  have hf := R.few
  have hot := otP_len R
  refine jss_cons (js_if ?_)
  walk_at "g"
  refine ⟨le_sl (n := 0) (by decide), EqW_nil (osi_fits r) (by decide) ⟨fun e => ?_, fun e => ?_⟩⟩
  · refine jss_one (js_ret ?_)
    walk_at "g"
    unfold lonD at h
    cases q : osi r with
    | nil => rw [q] at e; cases e
    | cons d ds =>
      rw [q] at h
      exact ixW_lst (atI_to (Int.le_refl 0) rfl) h
  have e0 : osi r = [] := by simpa using e
  have hV : lonD r = ((loP r).map tupD).headD .non := by unfold lonD; rw [e0]
  rw [hV] at h
  have hlo : (loP r).length ≤ 10000 := by
    unfold loP
    refine Nat.le_trans (flat_le _ 10 _ fun t _ => ?_) (Nat.mul_le_mul_right 10 hot)
    rw [List.length_map]; exact filt_le R _
  refine jss_nil ?_
  refine jss_cons (js_set (i := 3) sc_l_lonely.nd rfl (by walk_at "loc") ?_)
  walk_at "g"
  refine ⟨le_sl (n := 0) (by decide), ?_⟩
  refine jss_cons (js_forT (.nm 4) passes_own rfl (pg_name (i := 4) sc_l_lonely.nd rfl (by walk_at "loc")) ?_)
  walk_at "i"
  walk_at "g"
  refine ⟨_, rfl, ?_⟩
  refine loop_inv (Iv := fun items ρ S' => ∃ (ts : List T3) (acc : List (List Int)) (o4 o5 : Option D), items = ts.map triD ∧ (∀ t ∈ ts, t ∈ otP r) ∧ acc ++ (ts.flatMap fun t => ((ks r).filter fun k => strg r k (t3l t)).map fun k => t3l t ++ [k]) = loP r ∧ S' = S ∧ ρ = [some (relD r), some (.lst (osi r)), some (.lst ((otP r).map triD)), some (.lst (acc.map tupD)), o4, o5]) ?_ ?_ ⟨otP r, [], none, none, rfl, fun t ht => ht, rfl, rfl, rfl⟩
  · rintro d ds ρ S' ⟨ts, acc, o4, o5, e1, hts, e2, rfl, rfl⟩
    cases ts with
    | nil => cases e1
    | cons t ts =>
      cases e1
      obtain ⟨⟨h1, h2, h3⟩, _⟩ := mem_ot.mp (hts t (List.mem_cons_self ..))
      have hks : Keys r (t3l t) := fun x hx => by
        simp only [t3l, List.mem_cons, List.not_mem_nil, or_false] at hx
        rcases hx with rfl | rfl | rfl <;> assumption
      rw [List.flatMap_cons] at e2
      have hlen := congrArg List.length e2
      simp only [List.length_append] at hlen
      refine ⟨_, rfl, jss_one (js_set (i := 3) sc_l_lonely.nd rfl (by walk_at "loc") ?_)⟩
      walk_at "g"
      refine je_lc1 (.nm 5) [("_law_key", 5)] rfl sc_l_lonely.nd (by kernel_rfl) (fun b => pg_name (i := 5) sc_l_lonely.nd rfl (by walk_at "loc")) ?_
      walk_at "i"
      walk_at "g"
      refine ⟨_, rfl, by omega, by rw [List.length_map]; omega, ?_⟩
      rw [List.length_map, Int.toNat_natCast, irow_keys]
      refine lpp_filt D.int (fun k => strg r k (t3l t)) (fun k => tupD (t3l t ++ [k])) (ks r) rfl (fun z hz => ⟨_, rfl, fun b PT q => ?_, fun _ b PP q => ?_⟩) (le_sl (Nat.le_trans (List.length_filter_le _ _) (by rw [keysI_len]; omega))) ?_
      · walk_at "g"
        exact ⟨rfl, r, z, t3l t, rfl, R, ks_in hz, hks, by show 3 ≤ 1000; decide, _, rfl, q⟩
      · refine je_catT ?_
        walk_at "g"
        refine ⟨le_sl (n := 1) (by decide), _, _, rfl, rfl, le_sl (n := 4) (by decide), q⟩
      have em : ((ks r).filter fun k => strg r k (t3l t)).map (fun k => tupD (t3l t ++ [k])) = (((ks r).filter fun k => strg r k (t3l t)).map fun k => t3l t ++ [k]).map tupD := by rw [List.map_map]; rfl
      rw [em]
      refine addW_lst (by rw [List.length_map, List.length_map]; exact le_sl (by omega)) ?_
      rw [← List.map_append]
      exact ⟨ts, _, _, _, rfl, fun z hz => hts z (List.mem_cons_of_mem _ hz), by rw [← e2]; simp only [List.append_assoc], rfl, rfl⟩
  · rintro ρ S' ⟨ts, acc, o4, o5, e1, hts, e2, rfl, rfl⟩
    cases ts with
    | cons x xs => cases e1
    | nil =>
      rw [List.flatMap_nil, List.append_nil] at e2
      subst e2
      refine jss_one (js_ret ?_)
      walk_at "g"
      have hfit : Fits 2 (.lst ((loP r).map tupD)) := fits_tups fun d hd => by
        obtain ⟨l, _, rfl⟩ := List.mem_map.mp hd
        exact ⟨l, rfl⟩
      refine ⟨le_sl (n := 0) (by decide), EqW_nil hfit (by decide) ⟨fun e => ?_, fun e => ?_⟩⟩
      · walk_at "g"
        cases q : loP r with
        | nil => rw [q] at e; cases e
        | cons l ls =>
          rw [q] at h
          exact ixW_lst (atI_to (Int.le_refl 0) rfl) h
      · walk_at "g"
        cases q : loP r with
        | nil => rw [q] at h; exact h
        | cons l ls => rw [q] at e; cases e
abbrev s_l_classes : Stmt := topS 27
theorem sc_l_classes : FnScope ["_law_a_relation", "_law_told", "_law_answers", "_law_members", "_law_other", "_law_answer"] ["_law_a_relation"] (defScope s_l_classes) := ⟨rfl, rfl, rfl, by decide +kernel, rfl, by decide +kernel, by decide +kernel⟩
def sp_l_classes : DSpec := fun ds S P _ => ∃ r, ds = [relD r] ∧ Rel r ∧ P (.lst ((ddr r).map rowD)) S
theorem g_l_classes (T : Bl mg)   (dd : Df K mg "_law_classes" s_l_classes) : GF P w K mg base 1 "_law_classes" ["_law_a_relation"] sp_l_classes := by
  refine gf_of dd sc_l_classes (fun _ _ _ _ _ _ us hl => match us, hl with | [_], _ => rfl) fun f cdv A outer s H E ds S PP EE hr hgd hl h => ?_
  obtain ⟨r, rfl, R, h⟩ := h
  have hf := R.few
  refine jss_pl fun hpl => ?_
  refine jss_cons (js_set (i := 1) sc_l_classes.nd rfl (by walk_at "loc") ?_)
  refine je_lstP ?_
  walk_at "g"
  refine ⟨le_sl (n := 0) (by decide), ?_⟩
  refine jss_cons (js_forT (.nm 2) passes_own rfl (pg_name (i := 2) sc_l_classes.nd rfl (by walk_at "loc")) ?_)
  walk_at "i"
  walk_at "g"
  refine ⟨_, rfl, ?_⟩
  rw [zip_snd]
  refine loop_inv (Iv := fun items ρ S' => ∃ (ps : List (Nat × List Int)) (acc : List (List Int)) (o2 o3 o4 o5 : Option D), items = ps.map (fun p => rowD p.2) ∧ (∀ p ∈ ps, r[p.1]? = some p.2) ∧ acc.length + ps.length ≤ 10 ∧ ps.foldl (fun acc p => addNew acc (mem r p.1)) acc = ddr r ∧ S' = S ++ [.lst (acc.map rowD)] ∧ ρ = [some (relD r), some (.ptr S.length), o2, o3, o4, o5]) ?_ ?_ ⟨_, [], none, none, none, none, rfl, fun p hp => enum_mem hp, by rw [List.length_zip, List.length_range, List.length_nil]; omega, rfl, rfl, rfl⟩
  · rintro d ds ρ S' ⟨ps, acc, o2, o3, o4, o5, e1, hp, hz, e2, rfl, rfl⟩
    cases ps with
    | nil => cases e1
    | cons p ps =>
      cases e1
      rw [List.length_cons] at hz
      rw [List.foldl_cons] at e2
      have h0 := hp p (List.mem_cons_self ..)
      obtain ⟨hl1, hb1, hd1⟩ := R.row h0
      refine ⟨_, rfl, jss_cons (js_lc1 (i := 3) rfl rfl (.tp [4, 5]) [("_law_other", 4), ("_law_answer", 5)] rfl sc_l_classes.nd (by kernel_rfl) (fun b => pg_tup rfl (pgs_cons (pg_name (i := 4) sc_l_classes.nd rfl (Or.inl rfl)) (pgs_cons (pg_name (i := 5) sc_l_classes.nd rfl (Or.inl rfl)) pgs_nil))) ?_)⟩
      walk_at "i"
      walk_at "g"
      refine ⟨_, rfl, ?_⟩
      rw [show intsD p.2 = p.2.map D.int from rfl, enum_map]
      refine lpp_filt (fun q : Nat × Int => D.tup [.int (q.1 : Nat), D.int q.2]) (fun q => decide (q.2 = 1)) (fun q => D.int (q.1 : Nat)) _ rfl (fun a ha => ⟨_, rfl, fun b PT q => ?_, fun _ b PP q => ?_⟩) (le_sl ?_) ?_
      · walk_at "g"
        exact q
      · walk_at "g"
        exact q
      · refine Nat.le_trans (List.length_filter_le _ _) ?_
        rw [List.length_zip, List.length_range]; omega
      rw [mem_enum R h0]
      refine jss_one (js_if (jt_ninV (units65 (by assumption)) rfl ?_))
      walk_at "g"
      refine ⟨rowD (mem r p.1), acc.map rowD, 2, .pure (fits_ints _).1, .ptr last_at (.pure fun d hd => ?_), (fits_ints _).up (by decide), fits_rows _, by decide, ?_⟩
      · obtain ⟨row, _, rfl⟩ := List.mem_map.mp hd
        exact (fits_ints row).1
      rw [any_rows]
      refine ⟨fun e => ?_, fun e => ?_⟩
      · have e : mem r p.1 ∉ acc := by simpa using e
        refine jss_one (js_expr (je_append ?_))
        walk_at "g"
        refine ⟨_, _, rfl, last_at, ?_⟩
        walk_at "g"
        refine ⟨_, _, rfl, last_at, ?_, ?_⟩
        · rw [List.length_map]
          exact le_sl (by omega)
        · rw [last_set]
          have ee : addNew acc (mem r p.1) = acc ++ [mem r p.1] := if_neg e
          rw [ee] at e2
          exact ⟨ps, acc ++ [mem r p.1], _, _, _, _, rfl, fun q hq => hp q (List.mem_cons_of_mem _ hq), by rw [List.length_append, List.length_cons, List.length_nil]; omega, e2, by rw [List.map_append]; rfl, rfl⟩
      · have e : mem r p.1 ∈ acc := by simpa using e
        have ee : addNew acc (mem r p.1) = acc := if_pos e
        rw [ee] at e2
        exact jss_nil ⟨ps, acc, _, _, _, _, rfl, fun q hq => hp q (List.mem_cons_of_mem _ hq), by omega, e2, rfl, rfl⟩
  · rintro ρ S' ⟨ps, acc, o2, o3, o4, o5, e1, hp, hz, e2, rfl, rfl⟩
    cases ps with
    | cons x hs' => cases e1
    | nil =>
      rw [List.foldl_nil] at e2
      subst e2
      refine jss_less [some (relD r), some (.ptr S.length)] ⟨rfl, rfl, trivial⟩ ?_
      refine jss_rest (i := 1) rfl (Nat.le_refl _) (pl_rows _) hpl ⟨pl_rel r, trivial⟩ ?_
      refine jss_one (js_ret ?_)
      walk_at "g"
      exact h
end
end O
namespace O
open PySem PySem.Spec PyProof.Rows L2 J
local macro_rules | `(tactic| walk_at "vis") => `(tactic| first | exact Or.inl rfl | exact Or.inr (Or.inl rfl) | exact Or.inr (Or.inr rfl))
local macro_rules | `(tactic| walk_at "loc") => `(tactic| first | exact Or.inl rfl | exact Or.inr rfl)
local macro_rules | `(tactic| walk_at "hu") => `(tactic| exact Room.units (by assumption))
local macro_rules | `(tactic| walk_at "v") => `(tactic| first
  | refine je_var (i := 0) rfl (by walk_at "vis") rfl ?_
  | refine je_var (i := 1) rfl (by walk_at "vis") rfl ?_
  | refine je_var (i := 2) rfl (by walk_at "vis") rfl ?_
  | refine je_var (i := 3) rfl (by walk_at "vis") rfl ?_
  | refine je_var (i := 4) rfl (by walk_at "vis") rfl ?_
  | refine je_var (i := 5) rfl (by walk_at "vis") rfl ?_
  | refine je_var (i := 6) rfl (by walk_at "vis") rfl ?_
  | refine je_var (i := 7) rfl (by walk_at "vis") rfl ?_
  | refine je_var (i := 8) rfl (by walk_at "vis") rfl ?_
  | refine je_var (i := 9) rfl (by walk_at "vis") rfl ?_
  | refine je_var (i := 10) rfl (by walk_at "vis") rfl ?_
  | refine je_var (i := 11) rfl (by walk_at "vis") rfl ?_)
local macro_rules | `(tactic| walk_at "e") => `(tactic| first
  | with_reducible refine je_int ?_
  | with_reducible refine je_non ?_
  | with_reducible refine je_bl ?_
  | with_reducible refine je_str ?_
  | (with_reducible refine sh_name ?_); first | walk_at "v" | refine je_ty (by rfl) (Bl.int (by assumption)) bb_int ?_ | refine je_ty (by rfl) (Bl.bool (by assumption)) bb_bool ?_ | refine je_ty (by rfl) (Bl.list (by assumption)) bb_list ?_
  | (with_reducible refine sh_cons ?_); refine ja_cons ?_
  | with_reducible refine ja_nil ?_
  | with_reducible refine je_add ?_
  | with_reducible refine je_sub ?_
  | with_reducible refine je_mulI ?_
  | with_reducible refine je_mod ?_
  | with_reducible refine je_fdiv ?_
  | with_reducible refine je_powX ?_
  | (with_reducible refine je_eq ?_ ?_); walk_at "hu"
  | (with_reducible refine je_ne ?_ ?_); walk_at "hu"
  | with_reducible refine je_lt ?_
  | with_reducible refine je_le ?_
  | with_reducible refine je_gt ?_
  | with_reducible refine je_ge ?_
  | with_reducible refine je_isN ?_
  | with_reducible refine je_notN ?_
  | (with_reducible refine je_in ?_ ?_); rfl
  | (with_reducible refine je_nin ?_ ?_); rfl
  | (with_reducible refine je_chain ?_ ?_ ?_); first | exact op_le | exact op_lt | exact op_ge | exact op_gt; first | exact op_le | exact op_lt | exact op_ge | exact op_gt
  | with_reducible refine je_one ?_
  | with_reducible refine je_and ?_
  | with_reducible refine je_or ?_
  | with_reducible refine je_not ?_
  | with_reducible refine je_if ?_
  | with_reducible refine je_slice ?_
  | with_reducible refine jo_none ?_
  | with_reducible refine jo_some ?_
  | (with_reducible refine je_item ?_ ?_); exact (fun _ _ => rfl)
  | with_reducible refine je_lst ?_
  | with_reducible refine je_tup ?_
  | (with_reducible refine sh_callx "len" ?_); refine je_len (by rfl) (Bl.len (by assumption)) ?_
  | (with_reducible refine sh_callx "int" ?_); refine je_int1 (by rfl) (Bl.int (by assumption)) ?_
  | (with_reducible refine sh_callx "isinstance" ?_); refine je_isi (by rfl) (Bl.isinstance (by assumption)) ?_
  | (with_reducible refine sh_callx "all" ?_); refine je_all rfl (by rfl) (Bl.all (by assumption)) ?_
  | (with_reducible refine sh_callx "any" ?_); refine je_any rfl (by rfl) (Bl.any (by assumption)) ?_
  | (with_reducible refine sh_callx "abs" ?_); refine je_abs (by rfl) (Bl.abs (by assumption)) ?_
  | (with_reducible refine sh_callx "sorted" ?_); refine je_sorted (by rfl) (Bl.sorted (by assumption)) ?_
  | (with_reducible refine sh_callx "repr" ?_); refine je_repr (by assumption) (Room.units (by assumption)) (by rfl) (Bl.repr (by assumption)) ?_
  | (with_reducible refine sh_lr ?_); refine je_listR rfl (by rfl) (Bl.list (by assumption)) (by rfl) (Bl.range (by assumption)) ?_
  | (with_reducible refine sh_callx "list" ?_); refine je_list (by rfl) (Bl.list (by assumption)) ?_
  | (with_reducible refine sh_two "max" ?_); refine je_max2 rfl (by rfl) (Bl.max (by assumption)) ?_
  | (with_reducible refine sh_callx "max" ?_); refine je_maxL rfl (by rfl) (Bl.max (by assumption)) ?_
  | (with_reducible refine sh_two "min" ?_); refine je_min2 rfl (by rfl) (Bl.min (by assumption)) ?_
  | (with_reducible refine sh_call ?_); refine je_call (by assumption) (Room.mono (by assumption) (by decide)) (by assumption) (by rfl) ?_)
local macro_rules | `(tactic| walk_at "t") => `(tactic| first
  | with_reducible refine jt_w (jw_and ?_)
  | with_reducible refine jt_w (jw_or ?_)
  | with_reducible refine jw_and ?_
  | with_reducible refine jw_or ?_
  | with_reducible refine jw_and1 ?_
  | with_reducible refine jw_or1 ?_
  | with_reducible refine jt_not ?_
  | (with_reducible refine jt_eq ?_ ?_); walk_at "hu"
  | (with_reducible refine jt_ne ?_ ?_); walk_at "hu"
  | with_reducible refine jt_lt ?_
  | with_reducible refine jt_le ?_
  | with_reducible refine jt_gt ?_
  | with_reducible refine jt_ge ?_
  | with_reducible refine jt_isN ?_
  | with_reducible refine jt_notN ?_
  | (with_reducible refine jt_in ?_ ?_); rfl
  | (with_reducible refine jt_nin ?_ ?_); rfl
  | (with_reducible refine jt_chain2 ?_ ?_ ?_); first | exact op_le | exact op_lt | exact op_ge | exact op_gt; first | exact op_le | exact op_lt | exact op_ge | exact op_gt
  | (with_reducible refine sh_t ?_); refine jt_val ?_)
local macro_rules | `(tactic| walk_at "d") => `(tactic| first
  | with_reducible refine intW_mk ?_
  | with_reducible refine addW_int ?_
  | with_reducible refine lenW_lst ?_
  | with_reducible refine intCW_int ?_
  | with_reducible refine intCW_bl ?_
  | with_reducible refine EqW_int ?_
  | with_reducible refine EqW_ints ?_
  | with_reducible refine inW_ints ?_
  | with_reducible refine okT ?_
  | with_reducible refine okF ?_
  | with_reducible refine orT ?_
  | with_reducible refine orF ?_)
local macro_rules | `(tactic| walk_at "i") => `(tactic| first
  | (with_reducible refine sh_it "range" ?_); refine jit_range1 (by rfl) (Bl.range (by assumption)) ?_
  | (with_reducible refine sh_it "enumerate" ?_); refine jit_enum (by rfl) (Bl.enumerate (by assumption)) ?_
  | (with_reducible refine sh_it "zip" ?_); refine jit_zip (by rfl) (Bl.zip (by assumption)) ?_
  | refine jit_list ?_)
local macro_rules | `(tactic| walk_at "g") => `(tactic| repeat (first | walk_at "e" | walk_at "t" | walk_at "d"))
/-! sizes -/
structure Sm (d : D) : Prop where
  fits : Fits 3 d
  wd : Wd 600 d
theorem Sm.rep {d : D} (h : Sm d) : Rep d := ⟨h.fits.up (by decide), h.wd.up (le_sl (by decide))⟩
theorem sm_list {ds : List D} (h : ∀ d ∈ ds, Sm d) (hl : ds.length ≤ 100) : Rep (.lst ds) :=
  ⟨(fits_lst fun d hd => (h d hd).fits).up (by decide), (wd_lst fun d hd => (h d hd).wd).up (le_sl (by omega))⟩
theorem sm_non : Sm .non := ⟨fits_non.up (by decide), wd_non.up (by decide)⟩
theorem wd_key {r : Mat} (R : Rel r) {x : Int} (h : In r x) : Wd 2 (.int x) := wd_int 1 (by have := h.1; have := h.2; have := R.few; omega)
theorem wd_bit {x : Int} (h : x = 0 ∨ x = 1) : Wd 2 (.int x) := wd_int 1 (by rcases h with rfl | rfl <;> decide)
theorem wd_row {xs : List Int} (h : ∀ x ∈ xs, Wd 2 (.int x)) (hl : xs.length ≤ 10) : Wd 43 (rowD xs) :=
  (wd_lst (n := 2) fun d hd => by
    obtain ⟨x, hx, rfl⟩ := List.mem_map.mp hd
    exact h x hx).up (by rw [intsD_len]; omega)
theorem wd_tupk {xs : List Int} (h : ∀ x ∈ xs, Wd 2 (.int x)) (hl : xs.length ≤ 10) : Wd 43 (tupD xs) :=
  (wd_tup (n := 2) fun d hd => by
    obtain ⟨x, hx, rfl⟩ := List.mem_map.mp hd
    exact h x hx).up (by rw [intsD_len]; omega)
theorem fits_tupk (xs : List Int) : Fits 1 (tupD xs) := fits_tup fun d hd => by
  obtain ⟨i, _, rfl⟩ := List.mem_map.mp hd
  exact fits_int i
theorem sm_tup {r : Mat} (R : Rel r) {xs : List Int} (h : Keys r xs) (hl : xs.length ≤ 10) : Sm (tupD xs) := ⟨(fits_tupk xs).up (by decide), (wd_tupk (fun x hx => wd_key R (h x hx)) hl).up (by decide)⟩
theorem sm_mat {rs : List (List Int)} (h : ∀ row ∈ rs, (∀ x ∈ row, Wd 2 (.int x)) ∧ row.length ≤ 10) (hl : rs.length ≤ 10) : Sm (.lst (rs.map rowD)) :=
  ⟨(fits_rows rs).up (by decide), (wd_lst (n := 43) fun d hd => by
    obtain ⟨row, hr, rfl⟩ := List.mem_map.mp hd
    exact wd_row (h row hr).1 (h row hr).2).up (by rw [List.length_map]; omega)⟩
theorem sm_rel {r : Mat} (R : Rel r) : Sm (relD r) := sm_mat (fun row hr => ⟨fun x hx => wd_bit (R.bit row hr x hx), by rw [R.sq row hr]; exact R.few⟩) R.few
theorem cls_len (r : Mat) : (cls r).length ≤ r.length := by
  unfold cls
  have : ∀ ps : List (Nat × List Int), (ps.flatMap (cl1 r)).length ≤ ps.length := fun ps => by
    induction ps with
    | nil => exact Nat.le_refl _
    | cons p ps ih =>
      rw [List.flatMap_cons, List.length_append, List.length_cons]
      have : (cl1 r p).length ≤ 1 := by unfold cl1; split <;> simp
      omega
  refine Nat.le_trans (this _) ?_
  rw [List.length_zip, List.length_range]; omega
theorem sm_cls {r : Mat} (R : Rel r) : Sm (.lst ((cls r).map rowD)) := sm_mat (fun row hr => by
  obtain ⟨i, _, _, rfl⟩ := mem_cls.mp hr
  exact ⟨fun x hx => wd_key R (mem_mem.mp hx).1, filt_le R _⟩) (Nat.le_trans (cls_len r) R.few)
theorem sm_headD {xs : List D} (h : ∀ d ∈ xs, Sm d) : Sm (xs.headD .non) := by
  cases xs with
  | nil => exact sm_non
  | cons x xs => exact h x (List.mem_cons_self ..)
theorem sm_os {r : Mat} (R : Rel r) : ∀ d ∈ osi r, Sm d := fun d hd => by
  rw [osi_eq] at hd
  obtain ⟨t, ht, rfl⟩ := List.mem_map.mp hd
  obtain ⟨⟨h1, h2⟩, _⟩ := mem_os.mp ht
  exact sm_tup R (xs := [t.1, t.2]) (fun x hx => by
    simp only [List.mem_cons, List.not_mem_nil, or_false] at hx
    rcases hx with rfl | rfl <;> assumption) (by show 2 ≤ 10; decide)
theorem t3_keys {r : Mat} {t : T3} (h : t ∈ otP r) : Keys r (t3l t) := fun x hx => by
  obtain ⟨⟨h1, h2, h3⟩, _⟩ := mem_ot.mp h
  simp only [t3l, List.mem_cons, List.not_mem_nil, or_false] at hx
  rcases hx with rfl | rfl | rfl <;> assumption
theorem sm_ot {r : Mat} (R : Rel r) {ts : List T3} (h : ∀ t ∈ ts, t ∈ otP r) : ∀ d ∈ ts.map triD, Sm d := fun d hd => by
  obtain ⟨t, ht, rfl⟩ := List.mem_map.mp hd
  exact sm_tup R (xs := t3l t) (t3_keys (h t ht)) (by show 3 ≤ 10; decide)
theorem sm_lon {r : Mat} (R : Rel r) : Sm (lonD r) := by
  unfold lonD
  cases e : osi r with
  | cons d ds => exact sm_os R d (by rw [e]; exact List.mem_cons_self ..)
  | nil =>
    refine sm_headD fun d hd => ?_
    obtain ⟨l, hl, rfl⟩ := List.mem_map.mp hd
    unfold loP at hl
    obtain ⟨t, ht, hl⟩ := List.mem_flatMap.mp hl
    obtain ⟨k, hk, rfl⟩ := List.mem_map.mp hl
    refine sm_tup R (fun x hx => ?_) (by show 4 ≤ 10; decide)
    rcases List.mem_append.mp hx with h | h
    · exact t3_keys ht x h
    · cases List.mem_singleton.mp h
      exact ks_in (List.mem_filter.mp hk).1
def clsD (r : Mat) : D := if hcl r then .lst ((cls r).map rowD) else .non
theorem sm_clsD {r : Mat} (R : Rel r) : Sm (clsD r) := by
  unfold clsD; split
  · exact sm_cls R
  · exact sm_non
abbrev dues (r : Mat) : List D := [(osi r).headD .non, (otr r).headD .non, ((leP r).map triD).headD .non, lonD r, clsD r]
theorem sm_dues {r : Mat} (R : Rel r) : ∀ d ∈ dues r, Sm d := fun d hd => by
  simp only [dues, List.mem_cons, List.not_mem_nil, or_false] at hd
  rcases hd with rfl | rfl | rfl | rfl | rfl
  · exact sm_headD (sm_os R)
  · exact sm_headD (sm_ot R fun t h => h)
  · exact sm_headD (sm_ot R fun t h => (List.mem_filter.mp h).1)
  · exact sm_lon R
  · exact sm_clsD R
theorem hcl_iff (r : Mat) : hcl r = ((osP r).isEmpty && (otP r).isEmpty) := by
  unfold hcl
  rw [osi_eq, otr_eq, List.isEmpty_map, List.isEmpty_map]
theorem EqW_self {S : Store} {n : Nat} {d : D} {k : Bool → Prop} (hf : Fits n d) (hn : n ≤ 64) (hr : res S d = d) (hk : k true) : EqW S d d k := by
  unfold EqW
  rw [hr]
  exact ⟨hf.ok hn, hf.ok hn, by show k (PyData.eqv d.py d.py); rw [eqB_self hf.1]; exact hk⟩
theorem own_vl {S' : Store} : ∀ {idx : List Nat} {xss : List (List Int)}, idx.length = xss.length → (∀ (i : Nat) j xs, idx[i]? = some j → xss[i]? = some xs → S'[j]? = some (.lst (intsD xs))) → VlA S' (idx.map D.ptr) (xss.map rowD)
  | [], [], _, _ => .nil
  | j :: idx, xs :: xss, hl, h => .cons (.ptr (h 0 j xs rfl rfl) (.pure fun d hd => by
      obtain ⟨i, _, rfl⟩ := List.mem_map.mp hd; rfl)) (own_vl (Nat.succ.inj hl) fun i j xs h1 h2 => h (i + 1) j xs h1 h2)
theorem pair_flat (r : Mat) (R : Rel r) : (((ks r).map fun x => ((ks r).filter fun y => st r x y && !st r y x).map fun y => pairD (x, y)).flatten) = osi r := by
  rw [osi_eq]
  unfold osP
  rw [List.map_flatMap, List.flatMap_def]
  congr 1
  refine List.map_congr_left fun x _ => ?_
  rw [List.map_map]; rfl
theorem filter_one {idx : List Nat} {j : Nat} (hn : idx.Pairwise (· < ·)) (hj : j ∈ idx) : (idx.filter fun i => decide (i = j)).length = 1 := by
  induction idx with
  | nil => cases hj
  | cons a idx ih =>
    obtain ⟨h1, h2⟩ := List.pairwise_cons.mp hn
    by_cases e : a = j
    · subst e
      rw [List.filter_cons_of_pos (by simp), List.length_cons]
      have : (idx.filter fun i => decide (i = a)) = [] := List.filter_eq_nil_iff.mpr fun b hb => by have := h1 b hb; simp; omega
      rw [this]; rfl
    · rw [List.filter_cons_of_neg (by simp [e])]
      rcases List.mem_cons.mp hj with h | h
      · exact absurd h.symm e
      · exact ih h2 h
end O
namespace O
open PySem PySem.Spec PyProof.Rows L2 J
local macro_rules | `(tactic| walk_at "vis") => `(tactic| first | exact Or.inl rfl | exact Or.inr (Or.inl rfl) | exact Or.inr (Or.inr rfl))
local macro_rules | `(tactic| walk_at "loc") => `(tactic| first | exact Or.inl rfl | exact Or.inr rfl)
local macro_rules | `(tactic| walk_at "hu") => `(tactic| exact Room.units (by assumption))
local macro_rules | `(tactic| walk_at "v") => `(tactic| first
  | refine je_var (i := 0) rfl (by walk_at "vis") rfl ?_
  | refine je_var (i := 1) rfl (by walk_at "vis") rfl ?_
  | refine je_var (i := 2) rfl (by walk_at "vis") rfl ?_
  | refine je_var (i := 3) rfl (by walk_at "vis") rfl ?_
  | refine je_var (i := 4) rfl (by walk_at "vis") rfl ?_
  | refine je_var (i := 5) rfl (by walk_at "vis") rfl ?_
  | refine je_var (i := 6) rfl (by walk_at "vis") rfl ?_
  | refine je_var (i := 7) rfl (by walk_at "vis") rfl ?_
  | refine je_var (i := 8) rfl (by walk_at "vis") rfl ?_
  | refine je_var (i := 9) rfl (by walk_at "vis") rfl ?_
  | refine je_var (i := 10) rfl (by walk_at "vis") rfl ?_
  | refine je_var (i := 11) rfl (by walk_at "vis") rfl ?_
  | refine je_var (i := 12) rfl (by walk_at "vis") rfl ?_
  | refine je_var (i := 13) rfl (by walk_at "vis") rfl ?_
  | refine je_var (i := 14) rfl (by walk_at "vis") rfl ?_
  | refine je_var (i := 15) rfl (by walk_at "vis") rfl ?_
  | refine je_var (i := 16) rfl (by walk_at "vis") rfl ?_
  | refine je_var (i := 17) rfl (by walk_at "vis") rfl ?_
  | refine je_var (i := 18) rfl (by walk_at "vis") rfl ?_
  | refine je_var (i := 19) rfl (by walk_at "vis") rfl ?_
  | refine je_var (i := 20) rfl (by walk_at "vis") rfl ?_
  | refine je_var (i := 21) rfl (by walk_at "vis") rfl ?_
  | refine je_var (i := 22) rfl (by walk_at "vis") rfl ?_
  | refine je_var (i := 23) rfl (by walk_at "vis") rfl ?_)
local macro_rules | `(tactic| walk_at "e") => `(tactic| first
  | with_reducible refine je_int ?_
  | with_reducible refine je_non ?_
  | with_reducible refine je_bl ?_
  | with_reducible refine je_str ?_
  | (with_reducible refine sh_name ?_); first | walk_at "v" | refine je_ty (by rfl) (Bl.int (by assumption)) bb_int ?_ | refine je_ty (by rfl) (Bl.bool (by assumption)) bb_bool ?_ | refine je_ty (by rfl) (Bl.list (by assumption)) bb_list ?_
  | (with_reducible refine sh_cons ?_); refine ja_cons ?_
  | with_reducible refine ja_nil ?_
  | with_reducible refine je_add ?_
  | with_reducible refine je_sub ?_
  | with_reducible refine je_mulI ?_
  | with_reducible refine je_mod ?_
  | with_reducible refine je_fdiv ?_
  | with_reducible refine je_powX ?_
  | (with_reducible refine je_eq ?_ ?_); walk_at "hu"
  | (with_reducible refine je_ne ?_ ?_); walk_at "hu"
  | with_reducible refine je_lt ?_
  | with_reducible refine je_le ?_
  | with_reducible refine je_gt ?_
  | with_reducible refine je_ge ?_
  | with_reducible refine je_isN ?_
  | with_reducible refine je_notN ?_
  | (with_reducible refine je_in ?_ ?_); rfl
  | (with_reducible refine je_nin ?_ ?_); rfl
  | (with_reducible refine je_chain ?_ ?_ ?_); first | exact op_le | exact op_lt | exact op_ge | exact op_gt; first | exact op_le | exact op_lt | exact op_ge | exact op_gt
  | with_reducible refine je_one ?_
  | with_reducible refine je_and ?_
  | with_reducible refine je_or ?_
  | with_reducible refine je_not ?_
  | with_reducible refine je_if ?_
  | with_reducible refine je_slice ?_
  | with_reducible refine jo_none ?_
  | with_reducible refine jo_some ?_
  | (with_reducible refine je_item ?_ ?_); exact (fun _ _ => rfl)
  | with_reducible refine je_lst ?_
  | with_reducible refine je_tup ?_
  | (with_reducible refine sh_callx "len" ?_); refine je_len (by rfl) (Bl.len (by assumption)) ?_
  | (with_reducible refine sh_callx "int" ?_); refine je_int1 (by rfl) (Bl.int (by assumption)) ?_
  | (with_reducible refine sh_callx "isinstance" ?_); refine je_isi (by rfl) (Bl.isinstance (by assumption)) ?_
  | (with_reducible refine sh_callx "all" ?_); refine je_all rfl (by rfl) (Bl.all (by assumption)) ?_
  | (with_reducible refine sh_callx "any" ?_); refine je_any rfl (by rfl) (Bl.any (by assumption)) ?_
  | (with_reducible refine sh_callx "abs" ?_); refine je_abs (by rfl) (Bl.abs (by assumption)) ?_
  | (with_reducible refine sh_callx "sorted" ?_); refine je_sorted (by rfl) (Bl.sorted (by assumption)) ?_
  | (with_reducible refine sh_callx "repr" ?_); refine je_repr (by assumption) (Room.units (by assumption)) (by rfl) (Bl.repr (by assumption)) ?_
  | (with_reducible refine sh_lr ?_); refine je_listR rfl (by rfl) (Bl.list (by assumption)) (by rfl) (Bl.range (by assumption)) ?_
  | (with_reducible refine sh_callx "list" ?_); refine je_list (by rfl) (Bl.list (by assumption)) ?_
  | (with_reducible refine sh_two "max" ?_); refine je_max2 rfl (by rfl) (Bl.max (by assumption)) ?_
  | (with_reducible refine sh_callx "max" ?_); refine je_maxL rfl (by rfl) (Bl.max (by assumption)) ?_
  | (with_reducible refine sh_two "min" ?_); refine je_min2 rfl (by rfl) (Bl.min (by assumption)) ?_
  | (with_reducible refine sh_call ?_); refine je_call (by assumption) (Room.mono (by assumption) (by decide)) (by assumption) (by rfl) ?_)
local macro_rules | `(tactic| walk_at "t") => `(tactic| first
  | with_reducible refine jt_w (jw_and ?_)
  | with_reducible refine jt_w (jw_or ?_)
  | with_reducible refine jw_and ?_
  | with_reducible refine jw_or ?_
  | with_reducible refine jw_and1 ?_
  | with_reducible refine jw_or1 ?_
  | with_reducible refine jt_not ?_
  | (with_reducible refine jt_eq ?_ ?_); walk_at "hu"
  | (with_reducible refine jt_ne ?_ ?_); walk_at "hu"
  | with_reducible refine jt_lt ?_
  | with_reducible refine jt_le ?_
  | with_reducible refine jt_gt ?_
  | with_reducible refine jt_ge ?_
  | with_reducible refine jt_isN ?_
  | with_reducible refine jt_notN ?_
  | (with_reducible refine jt_in ?_ ?_); rfl
  | (with_reducible refine jt_nin ?_ ?_); rfl
  | (with_reducible refine jt_chain2 ?_ ?_ ?_); first | exact op_le | exact op_lt | exact op_ge | exact op_gt; first | exact op_le | exact op_lt | exact op_ge | exact op_gt
  | (with_reducible refine sh_t ?_); refine jt_val ?_)
local macro_rules | `(tactic| walk_at "d") => `(tactic| first
  | with_reducible refine intW_mk ?_
  | with_reducible refine addW_int ?_
  | with_reducible refine lenW_lst ?_
  | with_reducible refine intCW_int ?_
  | with_reducible refine intCW_bl ?_
  | with_reducible refine EqW_int ?_
  | with_reducible refine EqW_ints ?_
  | with_reducible refine inW_ints ?_
  | with_reducible refine okT ?_
  | with_reducible refine okF ?_
  | with_reducible refine orT ?_
  | with_reducible refine orF ?_)
local macro_rules | `(tactic| walk_at "i") => `(tactic| first
  | (with_reducible refine sh_it "range" ?_); refine jit_range1 (by rfl) (Bl.range (by assumption)) ?_
  | (with_reducible refine sh_it "enumerate" ?_); refine jit_enum (by rfl) (Bl.enumerate (by assumption)) ?_
  | (with_reducible refine sh_it "zip" ?_); refine jit_zip (by rfl) (Bl.zip (by assumption)) ?_
  | refine jit_list ?_)
local macro_rules | `(tactic| walk_at "g") => `(tactic| repeat (first | walk_at "e" | walk_at "t" | walk_at "d"))
theorem stW_stW {S : Store} {k : Nat} {a m : Int} {b : Bool} {c : Cell} : stW (S.set k c) k a m b = stW S k a m b := List.set_set ..
mutual
theorem pl_pure {k : Nat} : ∀ {d : D}, d.pure = true → D.pl k d
  | .tup ds, h => by unfold D.pl; exact plA_pure (ds := ds) h
  | .lst ds, h => by unfold D.pl; exact plA_pure (ds := ds) h
  | .ptr j, h => by simp [D.pure] at h
  | .non, _ | .bl _, _ | .int _, _ | .str _, _ | .val _, _ => by unfold D.pl; trivial
theorem plA_pure {k : Nat} : ∀ {ds : List D}, pureA ds = true → plA k ds
  | [], _ => by unfold plA; trivial
  | d :: ds, h => by
    simp only [pureA, Bool.and_eq_true] at h
    unfold plA
    exact ⟨pl_pure h.1, plA_pure h.2⟩
end
theorem hcl_eqv {r : Mat} (h : hcl r = true) : Eqv r := by
  rw [hcl_iff, Bool.and_eq_true, List.isEmpty_iff, List.isEmpty_iff] at h
  exact eqv_of h.1 h.2
theorem clsD_t {r : Mat} (e : hcl r = true) : D.lst ((cls r).map rowD) = clsD r := by
  unfold clsD
  rw [e]
  rfl
theorem clsD_f {r : Mat} (e : hcl r = false) : D.non = clsD r := by
  unfold clsD
  rw [e]
  rfl
theorem je_neg {X : Cx} {e : Expr} {ρ : Sl} {S : Store} {P : D → Store → Prop} {B : Bad} {pos : Pos} (h : JE X e ρ S (fun d S1 => ∃ i : Int, d = .int i ∧ P (.int (-i)) S1) B) : JE X (.UnaryOp .USub e pos) ρ S P B :=
  je_un un_neg (h.mono fun d S1 ⟨i, e1, q⟩ u H v1 Q hS r1 hQ => by
    subst e1
    cases r1
    exact ⟨i, rfl, hQ _ H (.here hS (.int _) q)⟩)
theorem inW_of {S : Store} {d1 d2 : D} {ds : List D} {k : Bool → Prop} (hf : flatD d1 = true) (hr : res S d2 = .lst ds) (ha : ds.all flatD = true) (h : k (ds.any fun d => eqF d d1)) : inW S d1 d2 k := by
  unfold inW
  rw [hr]
  exact ⟨hf, ha, h⟩
theorem res_at {S : Store} {j : Nat} {ds : List D} (h : S[j]? = some (.lst ds)) : res S (.ptr j) = .lst ds := by
  simp only [res, h]
theorem ints_flat (xs : List Int) : (intsD xs).all flatD = true := by
  unfold intsD
  rw [List.all_map]
  exact List.all_eq_true.mpr fun _ _ => rfl
theorem ints_noN (xs : List Int) : ((intsD xs).any fun d => eqF d .non) = false := by
  unfold intsD
  rw [List.any_map]
  exact List.any_eq_false.mpr fun _ _ => by exact Bool.false_ne_true
theorem je_to {X : Cx} {e : Expr} {ρ : Sl} {S : Store} {P : D → Store → Prop} {B : Bad} {v : D} (h : JE X e ρ S (fun d S1 => d = v ∧ S1 = S) B) (q : P v S) : JE X e ρ S P B := h.mono fun d S1 ⟨e1, e2⟩ => by rw [e1, e2]; exact q
theorem nat_of {v c : Int} (hc : 0 < c) : ∃ n : Nat, v % c = n ∧ (n : Int) < c := ⟨(v % c).toNat, by
  have := Int.emod_nonneg v (Int.ne_of_gt hc); omega, by
  have := Int.emod_nonneg v (Int.ne_of_gt hc)
  have := Int.emod_lt_of_pos v hc; omega⟩
theorem head_app (xs : List D) : atI (xs ++ [D.non]) 0 = some (xs.headD .non) := by
  cases xs with
  | nil => rfl
  | cons x xs => exact atI_to (Int.le_refl 0) rfl
section
variable {P : Program} {w : World} {K : PySem.W.Frag} {mg : Str → Option Value} {base : Heap}
abbrev s_l_right : Stmt := topS 28
theorem sc_l_right : FnScope ["_law_draws_here", "_law_a_relation", "_law_kept", "_law_keys", "_law_pairs", "_law_x", "_law_y", "_law_triples_here", "_law_lean", "_law_triple", "_law_due", "_law_some", "_law_told", "_law_ask", "_law_lots", "_law_last", "_law_lot"] ["_law_draws_here"] (defScope s_l_right) := ⟨rfl, rfl, rfl, by decide +kernel, rfl, by decide +kernel, by decide +kernel⟩
def sp_l_right : DSpec := fun ds S P _ => ∃ (k : Nat) (a m : Int) (b : Bool), ds = [.ptr k] ∧ S[k]? = some (dc a m b) ∧ 0 ≤ a ∧ 0 ≤ m ∧ m ≤ 10000000 ∧ ∀ a' m' E, 0 ≤ a' → m ≤ m' → m' ≤ m + 300 → P (.bl true) (stW S k a' m' b ++ E)
theorem g_l_right (T : Bl mg) (G0 : GF P w K mg base 1 "_law_next" ["_law_draws_here"] sp_next) (G1 : GF P w K mg base 2 "_law_relation" ["_law_draws_here", "_law_many"] sp_relation) (G2 : GF P w K mg base 1 "_law_triples" ["_law_a_relation"] sp_l_triples) (G3 : GF P w K mg base 2 "_law_lonely" ["_law_a_relation", "_law_pairs", "_law_triples_here"] sp_l_lonely) (G4 : GF P w K mg base 1 "_law_classes" ["_law_a_relation"] sp_l_classes) (G5 : GF P w K mg base 4 "one_sided" ["relation"] sp_one_sided) (G6 : GF P w K mg base 4 "open_triple" ["relation"] sp_open_triple) (G7 : GF P w K mg base 4 "leaning" ["relation"] sp_leaning) (G8 : GF P w K mg base 4 "lonely" ["relation"] sp_lonely) (G9 : GF P w K mg base 4 "classes" ["relation"] sp_classes) (K0 : KF P w K mg base 4 "one_sided" ["relation"] ["relation"] [0] sp_one_sided) (K1 : KF P w K mg base 4 "open_triple" ["relation"] ["relation"] [0] sp_open_triple) (K2 : KF P w K mg base 4 "leaning" ["relation"] ["relation"] [0] sp_leaning) (K3 : KF P w K mg base 4 "lonely" ["relation"] ["relation"] [0] sp_lonely) (K4 : KF P w K mg base 4 "classes" ["relation"] ["relation"] [0] sp_classesO) (dd : Df K mg "_law_right" s_l_right) : GF P w K mg base 5 "_law_right" ["_law_draws_here"] sp_l_right := by
  refine gf_of dd sc_l_right (fun _ _ _ _ _ _ us hl => match us, hl with | [_], _ => rfl) fun f cdv A outer s H E ds S PP EE hr hgd hl h => ?_
  obtain ⟨k, a, m, b, rfl, hs, ha, hm, hM, h⟩ := h
  have hk : k < S.length := (List.getElem?_eq_some_iff.mp hs).1
  refine jss_pl fun hpl => ?_
  refine jss_cons (js_set (i := 1) sc_l_right.nd rfl (by walk_at "loc") ?_)
  walk_at "g"
  refine ⟨rfl, k, a, m, b, rfl, hs, ha, hm, by omega, fun v a1 hv ha1 => ?_⟩
  walk_at "g"
  refine ⟨by decide, ?_⟩
  walk_at "g"
  obtain ⟨n, en, hn⟩ := nat_of (v := v) (c := 11) (by decide)
  rw [en]
  refine ⟨rfl, k, a1, m + 1, b, n, rfl, stW_at hk, ha1, by omega, by omega, by omega, fun r a2 m2 R ha2 hm2 hm3 => ?_⟩
  rw [stW_stW]
  have hend : ∀ E, PP (.bl true) (stW S k a2 m2 b ++ E) := fun E => h a2 m2 E ha2 (by omega) (by omega)
  have hpl1 : stPl (stW S k a2 m2 b).length (stW S k a2 m2 b) := stW_pl hpl
  have hSl : S.length ≤ (stW S k a2 m2 b).length := by rw [List.length_set]; exact Nat.le_refl _
  generalize stW S k a2 m2 b = S1 at hend hpl1 hSl ⊢
  clear h hm3 hm2 ha2 hn en ha1 hv hM hm ha hs hpl
  have hf := R.few
  refine jss_less [none, some (relD r), none, none, none, none, none, none, none, none, none, none, none, none, none, none, none] ⟨rfl, trivial⟩ ?_
  refine jss_cons (js_set (i := 2) sc_l_right.nd rfl (by walk_at "loc") ?_)
  walk_at "g"
  refine ⟨_, _, rfl, .pure (sm_rel R).fits.1, (sm_rel R).rep, ?_⟩
  refine jss_cons (js_set (i := 3) sc_l_right.nd rfl (by walk_at "loc") ?_)
  walk_at "g"
  refine ⟨_, rfl, by omega, by rw [List.length_map]; omega, ?_⟩
  rw [List.length_map, Int.toNat_natCast, irow_keys]
  refine jss_cons (js_set (i := 4) sc_l_right.nd rfl (by walk_at "loc") ?_)
  refine je_sumL rfl (by rfl) (Bl.sum (by assumption)) ?_
  refine ja_cons (je_lc1 (.nm 5) [("_law_x", 5)] rfl sc_l_right.nd (by kernel_rfl) (fun b => pg_name (i := 5) sc_l_right.nd rfl (by walk_at "loc")) ?_)
  walk_at "i"
  walk_at "g"
  refine ⟨_, rfl, lpp_map D.int (fun x => .lst (((ks r).filter fun y => st r x y && !st r y x).map fun y => pairD (x, y))) (ks r) rfl (fun x hx => ⟨_, rfl, fun bb PP q => ?_⟩) (le_sl (by rw [keysI_len]; omega)) ?_⟩
  · refine je_lc1 (.nm 6) [("_law_y", 6)] rfl sc_l_right.nd (by kernel_rfl) (fun b => pg_name (i := 6) sc_l_right.nd rfl (by walk_at "loc")) ?_
    walk_at "i"
    walk_at "g"
    refine ⟨_, rfl, lpp_filt D.int (fun y => st r x y && !st r y x) (fun y => pairD (x, y)) (ks r) rfl (fun y hy => ⟨_, rfl, fun b PT q => ?_, fun _ b PP q => ?_⟩) (le_sl (Nat.le_trans (List.length_filter_le _ _) (by rw [keysI_len]; omega))) q⟩
    · walk_at "g"
      refine ixW_lst (rel_at (ks_in hx)) ?_
      walk_at "g"
      refine ixW_lst (row_at R (ks_in hx) (ks_in hy)) ?_
      walk_at "g"
      refine ixW_lst (rel_at (ks_in hy)) ?_
      walk_at "g"
      refine ixW_lst (row_at R (ks_in hy) (ks_in hx)) ?_
      walk_at "g"
      rw [← ans_gt R] at q
      exact q
    · walk_at "g"
      exact ⟨le_sl (n := 2) (by decide), q⟩
  show JA _ _ _ _ _ _
  walk_at "g"
  refine ⟨le_sl (n := 0) (by decide), ?_⟩
  walk_at "g"
  have ep : ((ks r).map fun x => D.lst (((ks r).filter fun y => st r x y && !st r y x).map fun y => pairD (x, y))) = ((ks r).map fun x => ((ks r).filter fun y => st r x y && !st r y x).map fun y => pairD (x, y)).map D.lst := by rw [List.map_map]; rfl
  rw [ep]
  refine ⟨_, rfl, by rw [pair_flat r R]; exact le_sl (Nat.le_trans (osi_len R) (by decide)), ?_⟩
  rw [pair_flat r R]
  refine jss_cons (js_set (i := 7) sc_l_right.nd rfl (by walk_at "loc") ?_)
  walk_at "g"
  refine ⟨rfl, r, rfl, R, ?_⟩
  refine jss_cons ?_
  refine js_lc1 (i := 8) rfl rfl (.nm 9) [("_law_triple", 9)] rfl sc_l_right.nd (by kernel_rfl) (fun b => pg_name (i := 9) sc_l_right.nd rfl (by walk_at "loc")) ?_
  walk_at "i"
  walk_at "g"
  refine ⟨_, rfl, lpp_filt triD (fun t => !st r t.2.2 t.2.1) triD (otP r) rfl (fun t ht => ⟨_, rfl, fun b PT q => ?_, fun _ b PP q => ?_⟩) (le_sl (Nat.le_trans (List.length_filter_le _ _) (Nat.le_trans (otP_len R) (by decide)))) ?_⟩
  · obtain ⟨⟨h1, h2, h3⟩, _⟩ := mem_ot.mp ht
    walk_at "g"
    refine ixW_tup (d := .int t.2.2) rfl ?_
    walk_at "g"
    refine ixW_lst (rel_at h3) ?_
    walk_at "g"
    refine ixW_tup (d := .int t.2.1) rfl ?_
    walk_at "g"
    refine ixW_lst (row_at R h3 h2) ?_
    walk_at "g"
    rw [← ans_zero R] at q
    exact q
  · walk_at "g"
    exact q
  refine jss_cons (js_set (i := 10) sc_l_right.nd rfl (by walk_at "loc") ?_)
  refine je_catN true ?_
  refine je_lc1 (.nm 11) [("_law_some", 11)] rfl sc_l_right.nd (by kernel_rfl) (fun b => pg_name (i := 11) sc_l_right.nd rfl (by walk_at "loc")) ?_
  refine jit_list ?_
  walk_at "g"
  refine ⟨le_sl (n := 3) (by decide), _, rfl, ?_⟩
  have hone : ∀ (xs : List D), xs.length ≤ 1000 → (xs.length + [D.non].length ≤ sizeLine) := fun xs h => le_sl (by simp; omega)
  refine lpp_map D.lst (fun xs => xs.headD .non) [osi r, (otP r).map triD, (leP r).map triD] rfl (fun xs hx => ⟨_, rfl, fun bb PP q => ?_⟩) (le_sl (n := 3) (by decide)) ?_
  · have hl : xs.length ≤ 1000 := by
      simp only [List.mem_cons, List.not_mem_nil, or_false] at hx
      rcases hx with rfl | rfl | rfl
      · exact Nat.le_trans (osi_len R) (by decide)
      · rw [List.length_map]; exact otP_len R
      · rw [List.length_map]; exact Nat.le_trans (List.length_filter_le _ _) (otP_len R)
    walk_at "g"
    refine ⟨le_sl (n := 1) (by decide), addW_lst (hone xs hl) ?_⟩
    walk_at "g"
    exact ixW_lst (head_app xs) q
  show JE _ _ _ _ _ _
  walk_at "g"
  refine ⟨rfl, r, rfl, R, ?_⟩
  walk_at "g"
  refine ⟨le_sl (n := 1) (by decide), _, _, rfl, rfl, le_sl (n := 4) (by decide), ?_⟩
  show JSs _ _ _ _ _ _ _
  refine jss_cons (js_expr (je_append ?_))
  walk_at "g"
  refine ⟨_, _, rfl, last_at, ?_⟩
  refine ja_cons (je_to (v := clsD r) (je_if ?_) ?_)
  · walk_at "g"
    have hpt : (osi r).length + ((otP r).map triD).length ≤ sizeLine := by
      rw [List.length_map]
      have := osi_len R
      have := otP_len R
      exact le_sl (by omega)
    refine addW_lst hpt ?_
    walk_at "g"
    have hfit : Fits 2 (.lst (osi r ++ (otP r).map triD)) := fits_tups fun d hd => by
      rcases List.mem_append.mp hd with h1 | h1
      · rw [osi_eq] at h1
        obtain ⟨t, _, rfl⟩ := List.mem_map.mp h1
        exact ⟨[t.1, t.2], rfl⟩
      · obtain ⟨t, _, rfl⟩ := List.mem_map.mp h1
        exact ⟨[t.1, t.2.1, t.2.2], rfl⟩
    have hcl' : (osi r ++ (otP r).map triD).isEmpty = hcl r := by
      rw [hcl_iff, osi_eq]
      cases osP r <;> cases otP r <;> rfl
    refine ⟨le_sl (n := 0) (by decide), EqW_nil hfit (by decide) ?_⟩
    rw [hcl']
    refine ⟨fun e => ?_, fun e => ?_⟩
    · walk_at "g"
      refine ⟨rfl, r, rfl, R, ?_, rfl⟩
      unfold clsD
      rw [e, if_pos rfl, ← cls_new (hcl_eqv e) R]
      rfl
    · walk_at "g"
      refine ⟨?_, rfl⟩
      unfold clsD
      rw [e, if_neg (by decide)]
  walk_at "g"
  refine ⟨_, _, rfl, last_at, le_sl (n := 5) (by decide), ?_⟩
  rw [last_set]
  show JSs _ _ _ _ _ _ _
  refine jss_less [none, some (relD r), some (.str (rp (relD r))), none, none, none, none, none, none, none, some (.ptr S1.length), none, none, none, none, none, none] ⟨rfl, rfl, rfl, trivial⟩ ?_
  have hpd : plA S1.length (dues r) := plA_pure (pureA_of fun d hd => (sm_dues R d hd).fits.1)
  refine jss_rest (i := 10) (ds := dues r) rfl hSl hpd hpl1 ⟨pl_rel r, trivial, trivial⟩ ?_
  obtain ⟨f1, m1, V1⟩ := G5.vf
  obtain ⟨f2, m2, V2⟩ := G6.vf
  obtain ⟨f3, m3, V3⟩ := G7.vf
  obtain ⟨f4, m4, V4⟩ := G8.vf
  obtain ⟨f5, m5, V5⟩ := G9.vf
  refine jss_cons ?_
  refine js_lc1 (i := 12) rfl rfl (.nm 13) [("_law_ask", 13)] rfl sc_l_right.nd (by kernel_rfl) (fun b => pg_name (i := 13) sc_l_right.nd rfl (by walk_at "loc")) ?_
  refine jit_list (je_lst (ja_cons (je_fn (by rfl) m1 (ja_cons (je_fn (by rfl) m2 (ja_cons (je_fn (by rfl) m3 (ja_cons (je_fn (by rfl) m4 (ja_cons (je_fn (by rfl) m5 (ja_nil ?_))))))))))))
  refine ⟨le_sl (n := 5) (by decide), _, rfl, ?_⟩
  refine ⟨_, rfl, fun bb => jts_nil (okT fun bb => ?_)⟩
  refine je_callV (i := 13) V1 (Room.mono hr (by decide)) hgd rfl (by walk_at "vis") rfl ?_
  walk_at "g"
  refine ⟨rfl, r, rfl, R, le_sl (n := 1) (by decide), ?_⟩
  refine ⟨_, rfl, fun bb => jts_nil (okT fun bb => ?_)⟩
  refine je_callV (i := 13) V2 (Room.mono hr (by decide)) hgd rfl (by walk_at "vis") rfl ?_
  walk_at "g"
  refine ⟨rfl, r, rfl, R, le_sl (n := 2) (by decide), ?_⟩
  refine ⟨_, rfl, fun bb => jts_nil (okT fun bb => ?_)⟩
  refine je_callV (i := 13) V3 (Room.mono hr (by decide)) hgd rfl (by walk_at "vis") rfl ?_
  walk_at "g"
  refine ⟨rfl, r, rfl, R, le_sl (n := 3) (by decide), ?_⟩
  refine ⟨_, rfl, fun bb => jts_nil (okT fun bb => ?_)⟩
  refine je_callV (i := 13) V4 (Room.mono hr (by decide)) hgd rfl (by walk_at "vis") rfl ?_
  walk_at "g"
  refine ⟨rfl, r, rfl, R, le_sl (n := 4) (by decide), ?_⟩
  refine ⟨_, rfl, fun bb => jts_nil (okT fun bb => ?_)⟩
  refine je_to (v := clsD r) ?_ ?_
  · refine je_callV (i := 13) V5 (Room.mono hr (by decide)) hgd rfl (by walk_at "vis") rfl ?_
    walk_at "g"
    exact ⟨rfl, r, rfl, R, fun e => ⟨clsD_t e, rfl⟩, fun e => ⟨clsD_f e, rfl⟩⟩
  refine ⟨le_sl (n := 5) (by decide), ?_⟩
  show JSs _ _ _ _ _ _ _
  have hrd : Rep (.lst (dues r)) := sm_list (sm_dues R) (by show 5 ≤ 100; decide)
  refine jss_cons (js_if ?_)
  refine jt_w (jw_or (jt_neX ?_))
  walk_at "g"
  refine ⟨_, .lst (dues r), rfl, .pure hrd.fits.1, hrd, ?_⟩
  walk_at "g"
  refine ⟨_, .lst (dues r), rfl, .pure hrd.fits.1, hrd, EqX_same (orF ?_)⟩
  refine jw_or1 (jt_neX ?_)
  walk_at "g"
  refine ⟨_, _, rfl, .pure (sm_rel R).fits.1, (sm_rel R).rep, ?_⟩
  walk_at "g"
  refine EqX_same (okF ?_)
  refine jss_nil ?_
  have hl4 : (dues r).take 4 = [(osi r).headD .non, (otr r).headD .non, ((leP r).map triD).headD .non, lonD r] := rfl
  have hr4 : Rep (.lst ((dues r).take 4)) := sm_list (fun d hd => sm_dues R d (List.mem_of_mem_take hd)) (by show 4 ≤ 100; decide)
  refine jss_less [none, some (relD r), none, none, none, none, none, none, none, none, some (.lst (dues r)), none, none, none, none, none, none] ⟨rfl, rfl, trivial⟩ ?_
  refine jss_cons (js_set (i := 12) sc_l_right.nd rfl (by walk_at "loc") ?_)
  refine je_lst ?_
  refine ja_cons (je_callK K0 (Room.mono hr (by decide)) hgd (by rfl) (jk_cons ?_))
  walk_at "g"
  refine jk_nil ⟨rfl, by decide, rfl, r, rfl, R, ?_⟩
  refine ja_cons (je_callK K1 (Room.mono hr (by decide)) hgd (by rfl) (jk_cons ?_))
  walk_at "g"
  refine jk_nil ⟨rfl, by decide, rfl, r, rfl, R, ?_⟩
  refine ja_cons (je_callK K2 (Room.mono hr (by decide)) hgd (by rfl) (jk_cons ?_))
  walk_at "g"
  refine jk_nil ⟨rfl, by decide, rfl, r, rfl, R, ?_⟩
  walk_at "g"
  refine ⟨le_sl (n := 3) (by decide), ?_⟩
  refine jss_cons (js_if (jt_neX ?_))
  walk_at "g"
  refine je_callK K3 (Room.mono hr (by decide)) hgd (by rfl) (jk_cons ?_)
  walk_at "g"
  refine jk_nil ⟨rfl, by decide, rfl, r, rfl, R, ?_⟩
  walk_at "g"
  refine ⟨le_sl (n := 1) (by decide), addW_lst (le_sl (n := 4) (by decide)) ?_⟩
  walk_at "g"
  refine ⟨_, .lst ((dues r).take 4), rfl, .pure hr4.fits.1, hr4, ?_⟩
  walk_at "g"
  refine ⟨_, rfl, _, rfl, ?_⟩
  rw [cutD_to (by decide)]
  walk_at "g"
  refine ⟨_, .lst ((dues r).take 4), rfl, .pure hr4.fits.1, hr4, EqX_same (okF ?_)⟩
  refine jss_nil ?_
  refine jss_cons (js_set (i := 14) sc_l_right.nd rfl (by walk_at "loc") ?_)
  refine je_callK K4 (Room.mono hr (by decide)) hgd (by rfl) (jk_cons ?_)
  walk_at "g"
  refine jk_nil ⟨rfl, by decide, rfl, r, rfl, R, fun e ext idx ho => ?_, fun e => ?_⟩
  rotate_left
  · refine jss_cons (js_if ?_)
    walk_at "g"
    refine ⟨true, rfl, orT (okT ?_)⟩
    refine jss_one (js_ret ?_)
    walk_at "g"
    refine ixW_lst (d := clsD r) rfl ?_
    rw [← clsD_f e]
    refine EqW_self fits_non (by decide) rfl ?_
    have := hend []
    rw [List.append_nil] at this
    exact this
  have hvl : VlA (S1 ++ .gone :: ext) (idx.map D.ptr) ((cls r).map rowD) := own_vl ho.len fun i j xs h1 h2 => by
    rw [mid_far (ho.new j (List.mem_of_getElem? h1))]
    exact ho.at_ i j xs h1 h2
  have hE : eqB (.lst ((cls r).map rowD)) (.lst []) = (cls r).isEmpty := by cases cls r <;> rfl
  refine jss_cons (js_if (jt_w (jw_or ?_)))
  walk_at "g"
  refine ⟨false, rfl, orF ?_⟩
  refine jw_or1 (jt_eqV (Room.units hr) ?_)
  walk_at "g"
  refine ⟨le_sl (n := 0) (by decide), .lst ((cls r).map rowD), .lst [], 2, .lst hvl, .pure rfl, fits_rows _, (fits_lst (n := 0) (ds := []) (fun d hd => nomatch hd)).up (by decide), by decide, ?_⟩
  rw [hE]
  by_cases hne : cls r = []
  · rw [hne]
    refine okT ?_
    refine jss_one (js_ret (je_eqV (Room.units hr) ?_))
    walk_at "g"
    refine ixW_lst (d := clsD r) rfl ?_
    rw [← clsD_t e]
    refine ⟨_, _, 2, .lst hvl, .pure (fits_rows _).1, fits_rows _, fits_rows _, by decide, ?_⟩
    rw [show eqB (.lst ((cls r).map rowD)) (.lst ((cls r).map rowD)) = true from eqB_self (fits_rows _).1]
    exact hend _
  rw [show (cls r).isEmpty = false by cases hq : cls r with | nil => exact absurd hq hne | cons _ _ => rfl]
  refine okF (jss_nil ?_)
  have hil : idx ≠ [] := fun z => by
    have := ho.len
    rw [z] at this
    exact hne (List.eq_nil_of_length_eq_zero this.symm)
  obtain ⟨idx', jl, ei⟩ : ∃ idx' jl, idx = idx' ++ [jl] := ⟨idx.dropLast, idx.getLast hil, (List.dropLast_concat_getLast hil).symm⟩
  obtain ⟨cl', xl, ec⟩ : ∃ cl' xl, cls r = cl' ++ [xl] := ⟨(cls r).dropLast, (cls r).getLast hne, (List.dropLast_concat_getLast hne).symm⟩
  have hlen' : idx'.length = cl'.length := by
    have := ho.len
    rw [ei, ec, List.length_append, List.length_append] at this
    simpa using this
  have hjl : jl ∈ idx := by rw [ei]; simp
  have hat : (S1 ++ .gone :: ext)[jl]? = some (.lst (intsD xl)) := by
    rw [mid_far (ho.new jl hjl)]
    refine ho.at_ idx'.length jl xl (by rw [ei, List.getElem?_append_right (Nat.le_refl _), Nat.sub_self]; rfl) (by rw [ec, hlen', List.getElem?_append_right (Nat.le_refl _), Nat.sub_self]; rfl)
  have hcl10 := Nat.le_trans (cls_len r) R.few
  have hxl : xl.length ≤ 10 := by
    have : xl ∈ cls r := by rw [ec]; simp
    obtain ⟨i, _, _, rfl⟩ := mem_cls.mp this
    exact filt_le R _
  refine jss_cons (js_set (i := 15) sc_l_right.nd rfl (by walk_at "loc") ?_)
  refine je_item (fun _ _ => rfl) ?_
  walk_at "g"
  refine je_neg ?_
  walk_at "g"
  refine ⟨1, rfl, ixW_lst (d := .ptr jl) (by rw [ei, List.map_append]; exact atI_last _ _) ?_⟩
  refine jss_cons (js_expr (je_append ?_))
  walk_at "g"
  refine ⟨_, _, rfl, hat, ?_⟩
  walk_at "g"
  refine ⟨_, _, rfl, hat, by rw [intsD_len]; exact le_sl (by omega), ?_⟩
  have hS2 : (S1 ++ .gone :: ext).set jl (.lst (intsD xl ++ [.non])) = S1 ++ (.gone :: ext).set (jl - S1.length) (.lst (intsD xl ++ [.non])) := List.set_append_right _ _ (Nat.le_of_lt (ho.new jl hjl))
  have hat2 : ((S1 ++ .gone :: ext).set jl (.lst (intsD xl ++ [.non])))[jl]? = some (.lst (intsD xl ++ [.non])) := List.getElem?_set_self (List.getElem?_eq_some_iff.mp hat).1
  have hne2 : ∀ j, j ∈ idx → j ≠ jl → ∃ xs, ((S1 ++ .gone :: ext).set jl (.lst (intsD xl ++ [.non])))[j]? = some (.lst (intsD xs)) := fun j hj hjn => by
    rw [List.getElem?_set_ne (fun z => hjn z.symm)]
    obtain ⟨i, hi⟩ := List.mem_iff_getElem?.mp hj
    have hi2 := (List.getElem?_eq_some_iff.mp hi).1
    refine ⟨(cls r)[i]'(by rw [← ho.len]; exact hi2), ?_⟩
    rw [mid_far (ho.new j hj)]
    exact ho.at_ i j _ hi (List.getElem?_eq_getElem _)
  have hidx : idx.length ≤ 10 := by rw [ho.len]; exact hcl10
  have hfin := hend ((.gone :: ext).set (jl - S1.length) (.lst (intsD xl ++ [.non])))
  rw [← hS2] at hfin
  generalize (S1 ++ .gone :: ext).set jl (.lst (intsD xl ++ [.non])) = S2 at hat2 hne2 hfin ⊢
  refine jss_one (js_ret ?_)
  walk_at "g"
  refine je_lc1 (.nm 16) [("_law_lot", 16)] rfl sc_l_right.nd (by kernel_rfl) (fun b => pg_name (i := 16) sc_l_right.nd rfl (by walk_at "loc")) ?_
  walk_at "i"
  walk_at "g"
  refine ⟨_, rfl, lpp_filt D.ptr (fun j => decide (j = jl)) D.ptr idx rfl (fun j hj => ⟨_, rfl, fun b PT q => ?_, fun _ b PP q => ?_⟩) (le_sl (Nat.le_trans (List.length_filter_le _ _) (by omega))) ?_⟩
  · walk_at "g"
    by_cases hq : j = jl
    · subst hq
      refine inW_of rfl (res_at hat2) (by rw [List.all_append, ints_flat]; rfl) ?_
      rw [List.any_append, ints_noN]
      rw [decide_eq_true rfl] at q
      exact q
    · obtain ⟨xs, hxs⟩ := hne2 j hj hq
      refine inW_of rfl (res_at hxs) (ints_flat xs) ?_
      rw [ints_noN]
      rw [decide_eq_false hq] at q
      exact q
  · walk_at "g"
    exact q
  show JA _ _ _ _ _ _
  walk_at "g"
  rw [List.length_map, filter_one ho.inc hjl]
  refine ⟨_, rfl, okT ?_⟩
  walk_at "g"
  refine ⟨rfl, r, rfl, R, fun _ => ?_, fun z => by rw [e] at z; cases z⟩
  walk_at "g"
  refine ixW_lst (d := clsD r) rfl ?_
  rw [← clsD_t e]
  exact EqW_self (fits_rows _) (by decide) rfl hfin
end
end O
namespace O
open PySem PySem.Spec PyProof.Rows L2 J
local macro_rules | `(tactic| walk_at "vis") => `(tactic| first | exact Or.inl rfl | exact Or.inr (Or.inl rfl) | exact Or.inr (Or.inr rfl))
local macro_rules | `(tactic| walk_at "loc") => `(tactic| first | exact Or.inl rfl | exact Or.inr rfl)
local macro_rules | `(tactic| walk_at "hu") => `(tactic| exact Room.units (by assumption))
local macro_rules | `(tactic| walk_at "v") => `(tactic| first
  | refine je_var (i := 0) rfl (by walk_at "vis") rfl ?_
  | refine je_var (i := 1) rfl (by walk_at "vis") rfl ?_
  | refine je_var (i := 2) rfl (by walk_at "vis") rfl ?_
  | refine je_var (i := 3) rfl (by walk_at "vis") rfl ?_
  | refine je_var (i := 4) rfl (by walk_at "vis") rfl ?_
  | refine je_var (i := 5) rfl (by walk_at "vis") rfl ?_
  | refine je_var (i := 6) rfl (by walk_at "vis") rfl ?_
  | refine je_var (i := 7) rfl (by walk_at "vis") rfl ?_
  | refine je_var (i := 8) rfl (by walk_at "vis") rfl ?_
  | refine je_var (i := 9) rfl (by walk_at "vis") rfl ?_
  | refine je_var (i := 10) rfl (by walk_at "vis") rfl ?_
  | refine je_var (i := 11) rfl (by walk_at "vis") rfl ?_
  | refine je_var (i := 12) rfl (by walk_at "vis") rfl ?_
  | refine je_var (i := 13) rfl (by walk_at "vis") rfl ?_
  | refine je_var (i := 14) rfl (by walk_at "vis") rfl ?_
  | refine je_var (i := 15) rfl (by walk_at "vis") rfl ?_
  | refine je_var (i := 16) rfl (by walk_at "vis") rfl ?_
  | refine je_var (i := 17) rfl (by walk_at "vis") rfl ?_
  | refine je_var (i := 18) rfl (by walk_at "vis") rfl ?_
  | refine je_var (i := 19) rfl (by walk_at "vis") rfl ?_
  | refine je_var (i := 20) rfl (by walk_at "vis") rfl ?_
  | refine je_var (i := 21) rfl (by walk_at "vis") rfl ?_
  | refine je_var (i := 22) rfl (by walk_at "vis") rfl ?_
  | refine je_var (i := 23) rfl (by walk_at "vis") rfl ?_)
local macro_rules | `(tactic| walk_at "e") => `(tactic| first
  | with_reducible refine je_int ?_
  | with_reducible refine je_non ?_
  | with_reducible refine je_bl ?_
  | with_reducible refine je_str ?_
  | (with_reducible refine sh_name ?_); first | walk_at "v" | refine je_ty (by rfl) (Bl.int (by assumption)) bb_int ?_ | refine je_ty (by rfl) (Bl.bool (by assumption)) bb_bool ?_ | refine je_ty (by rfl) (Bl.list (by assumption)) bb_list ?_
  | (with_reducible refine sh_cons ?_); refine ja_cons ?_
  | with_reducible refine ja_nil ?_
  | with_reducible refine je_add ?_
  | with_reducible refine je_sub ?_
  | with_reducible refine je_mulI ?_
  | with_reducible refine je_mod ?_
  | with_reducible refine je_fdiv ?_
  | with_reducible refine je_powX ?_
  | (with_reducible refine je_eq ?_ ?_); walk_at "hu"
  | (with_reducible refine je_ne ?_ ?_); walk_at "hu"
  | with_reducible refine je_lt ?_
  | with_reducible refine je_le ?_
  | with_reducible refine je_gt ?_
  | with_reducible refine je_ge ?_
  | with_reducible refine je_isN ?_
  | with_reducible refine je_notN ?_
  | (with_reducible refine je_in ?_ ?_); rfl
  | (with_reducible refine je_nin ?_ ?_); rfl
  | (with_reducible refine je_chain ?_ ?_ ?_); first | exact op_le | exact op_lt | exact op_ge | exact op_gt; first | exact op_le | exact op_lt | exact op_ge | exact op_gt
  | with_reducible refine je_one ?_
  | with_reducible refine je_and ?_
  | with_reducible refine je_or ?_
  | with_reducible refine je_not ?_
  | with_reducible refine je_if ?_
  | with_reducible refine je_slice ?_
  | with_reducible refine jo_none ?_
  | with_reducible refine jo_some ?_
  | (with_reducible refine je_item ?_ ?_); exact (fun _ _ => rfl)
  | with_reducible refine je_lst ?_
  | with_reducible refine je_tup ?_
  | (with_reducible refine sh_callx "len" ?_); refine je_len (by rfl) (Bl.len (by assumption)) ?_
  | (with_reducible refine sh_callx "int" ?_); refine je_int1 (by rfl) (Bl.int (by assumption)) ?_
  | (with_reducible refine sh_callx "isinstance" ?_); refine je_isi (by rfl) (Bl.isinstance (by assumption)) ?_
  | (with_reducible refine sh_callx "all" ?_); refine je_all rfl (by rfl) (Bl.all (by assumption)) ?_
  | (with_reducible refine sh_callx "any" ?_); refine je_any rfl (by rfl) (Bl.any (by assumption)) ?_
  | (with_reducible refine sh_callx "abs" ?_); refine je_abs (by rfl) (Bl.abs (by assumption)) ?_
  | (with_reducible refine sh_callx "sorted" ?_); refine je_sorted (by rfl) (Bl.sorted (by assumption)) ?_
  | (with_reducible refine sh_callx "repr" ?_); refine je_repr (by assumption) (Room.units (by assumption)) (by rfl) (Bl.repr (by assumption)) ?_
  | (with_reducible refine sh_lr ?_); refine je_listR rfl (by rfl) (Bl.list (by assumption)) (by rfl) (Bl.range (by assumption)) ?_
  | (with_reducible refine sh_callx "list" ?_); refine je_list (by rfl) (Bl.list (by assumption)) ?_
  | (with_reducible refine sh_two "max" ?_); refine je_max2 rfl (by rfl) (Bl.max (by assumption)) ?_
  | (with_reducible refine sh_callx "max" ?_); refine je_maxL rfl (by rfl) (Bl.max (by assumption)) ?_
  | (with_reducible refine sh_two "min" ?_); refine je_min2 rfl (by rfl) (Bl.min (by assumption)) ?_
  | (with_reducible refine sh_call ?_); refine je_call (by assumption) (Room.mono (by assumption) (by decide)) (by assumption) (by rfl) ?_)
local macro_rules | `(tactic| walk_at "t") => `(tactic| first
  | with_reducible refine jt_w (jw_and ?_)
  | with_reducible refine jt_w (jw_or ?_)
  | with_reducible refine jw_and ?_
  | with_reducible refine jw_or ?_
  | with_reducible refine jw_and1 ?_
  | with_reducible refine jw_or1 ?_
  | with_reducible refine jt_not ?_
  | (with_reducible refine jt_eq ?_ ?_); walk_at "hu"
  | (with_reducible refine jt_ne ?_ ?_); walk_at "hu"
  | with_reducible refine jt_lt ?_
  | with_reducible refine jt_le ?_
  | with_reducible refine jt_gt ?_
  | with_reducible refine jt_ge ?_
  | with_reducible refine jt_isN ?_
  | with_reducible refine jt_notN ?_
  | (with_reducible refine jt_in ?_ ?_); rfl
  | (with_reducible refine jt_nin ?_ ?_); rfl
  | (with_reducible refine jt_chain2 ?_ ?_ ?_); first | exact op_le | exact op_lt | exact op_ge | exact op_gt; first | exact op_le | exact op_lt | exact op_ge | exact op_gt
  | (with_reducible refine sh_t ?_); refine jt_val ?_)
local macro_rules | `(tactic| walk_at "d") => `(tactic| first
  | with_reducible refine intW_mk ?_
  | with_reducible refine addW_int ?_
  | with_reducible refine lenW_lst ?_
  | with_reducible refine intCW_int ?_
  | with_reducible refine intCW_bl ?_
  | with_reducible refine EqW_int ?_
  | with_reducible refine EqW_ints ?_
  | with_reducible refine inW_ints ?_
  | with_reducible refine okT ?_
  | with_reducible refine okF ?_
  | with_reducible refine orT ?_
  | with_reducible refine orF ?_)
local macro_rules | `(tactic| walk_at "i") => `(tactic| first
  | (with_reducible refine sh_it "range" ?_); refine jit_range1 (by rfl) (Bl.range (by assumption)) ?_
  | (with_reducible refine sh_it "enumerate" ?_); refine jit_enum (by rfl) (Bl.enumerate (by assumption)) ?_
  | (with_reducible refine sh_it "zip" ?_); refine jit_zip (by rfl) (Bl.zip (by assumption)) ?_
  | refine jit_list ?_)
local macro_rules | `(tactic| walk_at "g") => `(tactic| repeat (first | walk_at "e" | walk_at "t" | walk_at "d"))
section
variable {P : Program} {w : World} {K : PySem.W.Frag} {mg : Str → Option Value} {base : Heap}
abbrev s_law : Stmt := topS 29
theorem sc_law : FnScope ["_law_script", "_law_draws_here", "_law_cell", "_law_turn"] ["_law_script"] (defScope s_law) := ⟨rfl, rfl, rfl, by decide +kernel, rfl, by decide +kernel, by decide +kernel⟩
abbrev CL (ns : List Int) : Prop := ns.length ≤ 63 ∧ ∀ z ∈ ns, Builtin.Int.intBits z ≤ 1048576
abbrev ptrs (i n : Nat) : List D := (List.range' i n).map D.ptr
theorem g_law (T : Bl mg) (G1 : GF P w K mg base 1 "_law_draws" ["_law_cell"] sp_draws) (G2 : GF P w K mg base 5 "_law_right" ["_law_draws_here"] sp_l_right) {f : Addr} {fd : FuncData} (F : Fun K "law" "law" s_law f fd) : FnG P w K mg base (5 + 1) f fd ["_law_script"] (spLaw K CL) := by
  refine law_def F sc_law fun cdv A outer s H E q ns hr hgd hc hsc => ?_
  refine jss_cons (js_forT (.nm 1) passes_own rfl (pg_name (i := 1) sc_law.nd rfl (by walk_at "loc")) ?_)
  refine jit_list (je_lc1 (.nm 2) [("_law_cell", 2)] rfl sc_law.nd (by kernel_rfl) (fun b => pg_name (i := 2) sc_law.nd rfl (by walk_at "loc")) ?_)
  refine jit_list ?_
  refine je_add ?_
  refine je_script (i := 0) (ns := ns) (lo := none) (hi := some 6) rfl (by walk_at "vis") rfl hsc tO_none tO_int ?_
  walk_at "g"
  refine ⟨le_sl (n := 1) (by decide), ?_⟩
  have hl6 : (ns.take 6).length ≤ 6 := by rw [List.length_take]; omega
  rw [cutD_to (by decide), intsD_take, show (6 : Int).toNat = 6 from rfl]
  refine addW_lst (by rw [intsD_len]; exact le_sl (by simp; omega)) ?_
  rw [show [D.int 0] = intsD [0] from rfl, intsD_app]
  refine ⟨_, rfl, ?_⟩
  generalize hcs : ns.take 6 ++ [0] = cs0
  have hcl : cs0.length ≤ 7 := by rw [← hcs, List.length_append]; exact Nat.succ_le_succ hl6
  clear hcs hl6
  refine lpp_inv (Iv := fun items T acc => ∃ (cs : List Int), items = intsD cs ∧ acc = ptrs 0 T.length ∧ T.length + cs.length ≤ 7 ∧ ∀ k, k < T.length → ∃ a b, T[k]? = some (dc a 0 b) ∧ 0 ≤ a) ?_ ?_ ⟨cs0, rfl, rfl, by rw [List.length_nil]; omega, fun k hk => absurd hk (Nat.not_lt_zero _)⟩
  · rintro d ds T acc ⟨cs, e1, rfl, hz, hT⟩
    cases cs with
    | nil => cases e1
    | cons c cs =>
      cases e1
      rw [List.length_cons] at hz
      refine ⟨_, rfl, fun bb => jts_nil (okT fun bb => ?_)⟩
      walk_at "g"
      refine ⟨rfl, c, rfl, fun a b ha => ⟨by simp only [ptrs, List.length_map, List.length_range']; exact le_sl (by omega), cs, rfl, ?_, by rw [List.length_append]; simp; omega, fun k hk => ?_⟩⟩
      · unfold ptrs
        rw [List.length_append, List.range'_append_1.symm, List.map_append]
        simp
      · rw [List.length_append] at hk
        rcases Nat.lt_or_ge k T.length with h1 | h1
        · rw [List.getElem?_append_left h1]; exact hT k h1
        · have : k = T.length := by simp at hk; omega
          subst this
          exact ⟨a, b, last_at, ha⟩
  rintro T acc ⟨cs, e1, rfl, hz, hT⟩
  refine ⟨_, rfl, ?_⟩
  refine loop_inv (Iv := fun items ρ S' => ∃ (i c : Nat) (o1 o2 o3 : Option D), items = ptrs i c ∧ (∀ k, i ≤ k → k < i + c → ∃ a b, S'[k]? = some (dc a 0 b) ∧ 0 ≤ a) ∧ ρ = [some (.val (.ref q)), o1, o2, o3]) ?_ ?_ ⟨0, T.length, none, none, none, rfl, fun k _ hk => hT k (by omega), rfl⟩
  · rintro d ds ρ S' ⟨i, c, o1, o2, o3, e1, hS, rfl⟩
    cases c with
    | zero => cases e1
    | succ c =>
      rw [show ptrs i (c + 1) = .ptr i :: ptrs (i + 1) c from rfl] at e1
      cases e1
      obtain ⟨a, b, h1, ha⟩ := hS i (Nat.le_refl _) (by omega)
      refine ⟨_, rfl, jss_one (js_forT (.nm 3) passes_own rfl (pg_name (i := 3) sc_law.nd rfl (by walk_at "loc")) ?_)⟩
      walk_at "i"
      walk_at "g"
      refine ⟨_, rfl, by decide, by decide, ?_⟩
      rw [show irow 0 (Int.toNat 4) = intsD (keysI 4) from irow_keys 4]
      refine loop_inv (Iv := fun items ρ S2 => ∃ (js : List Int) (o3 : Option D) (a m : Int), items = intsD js ∧ js.length ≤ 4 ∧ 0 ≤ a ∧ 0 ≤ m ∧ m + 1000 * js.length ≤ 1000 * 4 ∧ S2[i]? = some (dc a m b) ∧ (∀ k, i + 1 ≤ k → k < i + 1 + c → ∃ a b, S2[k]? = some (dc a 0 b) ∧ 0 ≤ a) ∧ ρ = [some (.val (.ref q)), some (.ptr i), o2, o3]) ?_ ?_ ⟨_, _, a, 0, rfl, by rw [keysI_len]; exact Nat.le_refl _, ha, by decide, by rw [keysI_len]; decide, h1, fun k hk hk2 => hS k (by omega) (by omega), rfl⟩
      · rintro d ds ρ S2 ⟨js, o3, a, m, e1, hj, ha, hm, hm2, h1, hS2, rfl⟩
        cases js with
        | nil => cases e1
        | cons j js =>
          cases e1
          rw [List.length_cons] at hm2 hj
          have hi : i < S2.length := (List.getElem?_eq_some_iff.mp h1).1
          refine ⟨_, rfl, jss_one (js_if ?_)⟩
          walk_at "g"
          refine ⟨rfl, i, a, m, b, rfl, h1, ha, hm, by omega, fun a1 m1 E ha1 h2 h3 => ⟨true, rfl, okF ?_⟩⟩
          refine jss_nil ⟨js, _, a1, m1, rfl, by omega, ha1, by omega, by omega, ?_, fun k hk hk2 => ?_, rfl⟩
          · rw [List.getElem?_append_left (by rw [List.length_set]; exact hi)]
            exact stW_at hi
          · obtain ⟨a', b', h4, h5⟩ := hS2 k hk hk2
            have := (List.getElem?_eq_some_iff.mp h4).1
            refine ⟨a', b', ?_, h5⟩
            rw [List.getElem?_append_left (by rw [List.length_set]; exact this), List.getElem?_set_ne (by omega)]
            exact h4
      · rintro ρ S2 ⟨js, o3, a, m, e1, hj, ha, hm, hm2, h1, hS2, rfl⟩
        exact ⟨i + 1, c, _, _, _, rfl, fun k hk hk2 => hS2 k hk (by omega), rfl⟩
  · rintro ρ S' ⟨i, c, o1, o2, o3, e1, hS, rfl⟩
    refine jss_one (js_ret ?_)
    walk_at "g"
    rfl
end
end O
namespace O
open PySem PySem.Spec PyProof.Rows L2 J
theorem df_mk {K : PySem.W.Frag} {h : Heap} {mg : Str → Option Value} (X : K.In h) (G : h.Ns mainGlobals mg) {x : Str} {st : Stmt} {f : Addr} {od an : Option Addr} {sl : Array (Option Value)} {oc kV dc pm cd ct : Value} (a : PySem.W.nsIn K mainGlobals x = some (some (.ref f))) (l : K.lookup f = some ⟨oc, od, .func (PySem.W.fnOf x x (defArgs st) (defBody st) (defScope st) .none kV dc pm an cd ct), sl⟩) (c : PySem.W.codeIn K cd x = true) (k : PySem.W.keepIn K (.ref f) = true) : Df K mg x st :=
  ⟨f, _, fun_mk (st := st) l c k, PySem.W.mg_of X G a⟩
theorem all_gf {P : Program} {w : World} {K : PySem.W.Frag} {mg : Str → Option Value} (T : Bl mg)
    (D0 : Df K mg "is_whole" s_is_whole)
    (D1 : Df K mg "is_answer" s_is_answer)
    (D2 : Df K mg "check_relation" s_check_relation)
    (D3 : Df K mg "stands" s_stands)
    (D4 : Df K mg "first_of" s_first_of)
    (D5 : Df K mg "one_sided_in" s_one_sided_in)
    (D6 : Df K mg "open_triples" s_open_triples)
    (D7 : Df K mg "one_sided" s_one_sided)
    (D8 : Df K mg "open_triple" s_open_triple)
    (D9 : Df K mg "leaning_in" s_leaning_in)
    (D10 : Df K mg "leaning" s_leaning)
    (D11 : Df K mg "are_strangers" s_are_strangers)
    (D12 : Df K mg "lonely_in" s_lonely_in)
    (D13 : Df K mg "lonely" s_lonely)
    (D14 : Df K mg "has_classes" s_has_classes)
    (D15 : Df K mg "classes" s_classes)
    (D16 : Df K mg "_law_draws" s_draws)
    (D17 : Df K mg "_law_next" s_next)
    (D18 : Df K mg "_law_closed" s_closed)
    (D19 : Df K mg "_law_relation" s_relation)
    (D20 : Df K mg "_law_triples" s_l_triples)
    (D21 : Df K mg "_law_strangers" s_l_strangers)
    (D22 : Df K mg "_law_lonely" s_l_lonely)
    (D23 : Df K mg "_law_classes" s_l_classes)
    (D24 : Df K mg "_law_right" s_l_right)
    {fa : Addr} {fd : FuncData} (F : Fun K "law" "law" s_law fa fd) (base : Heap) : FnG P w K mg base 6 fa fd ["_law_script"] (spLaw K CL) := by
  have h_is_whole : GF P w K mg base 1 "is_whole" ["thing"] sp_is_whole := by apply g_is_whole <;> assumption
  have h_stands : GF P w K mg base 1 "stands" ["relation", "one", "other"] sp_stands := by apply g_stands <;> assumption
  have h_first_of : GF P w K mg base 1 "first_of" ["things"] sp_first_of := by apply g_first_of <;> assumption
  have h_draws : GF P w K mg base 1 "_law_draws" ["_law_cell"] sp_draws := by apply g_draws <;> assumption
  have h_next : GF P w K mg base 1 "_law_next" ["_law_draws_here"] sp_next := by apply g_next <;> assumption
  have h_closed : GF P w K mg base 1 "_law_closed" ["_law_told"] sp_closed := by apply g_closed <;> assumption
  have h_l_triples : GF P w K mg base 1 "_law_triples" ["_law_a_relation"] sp_l_triples := by apply g_l_triples <;> assumption
  have h_l_strangers : GF P w K mg base 1 "_law_strangers" ["_law_a_relation", "_law_key", "_law_others"] sp_l_strangers := by apply g_l_strangers <;> assumption
  have h_l_classes : GF P w K mg base 1 "_law_classes" ["_law_a_relation"] sp_l_classes := by apply g_l_classes <;> assumption
  have h_is_answer : GF P w K mg base 2 "is_answer" ["thing"] sp_is_answer := by apply g_is_answer <;> assumption
  have h_one_sided_in : GF P w K mg base 2 "one_sided_in" ["relation"] sp_one_sided_in := by apply g_one_sided_in <;> assumption
  have h_open_triples : GF P w K mg base 2 "open_triples" ["relation"] sp_open_triples := by apply g_open_triples <;> assumption
  have h_are_strangers : GF P w K mg base 2 "are_strangers" ["relation", "key", "others"] sp_are_strangers := by apply g_are_strangers <;> assumption
  have h_relation : GF P w K mg base 2 "_law_relation" ["_law_draws_here", "_law_many"] sp_relation := by apply g_relation <;> assumption
  have h_l_lonely : GF P w K mg base 2 "_law_lonely" ["_law_a_relation", "_law_pairs", "_law_triples_here"] sp_l_lonely := by apply g_l_lonely <;> assumption
  have h_check_relation : GF P w K mg base 3 "check_relation" ["relation"] sp_check_relation := by apply g_check_relation <;> assumption
  have h_leaning_in : GF P w K mg base 3 "leaning_in" ["relation"] sp_leaning_in := by apply g_leaning_in <;> assumption
  have h_lonely_in : GF P w K mg base 3 "lonely_in" ["relation"] sp_lonely_in := by apply g_lonely_in <;> assumption
  have h_has_classes : GF P w K mg base 3 "has_classes" ["relation"] sp_has_classes := by apply g_has_classes <;> assumption
  have h_one_sided : GF P w K mg base 4 "one_sided" ["relation"] sp_one_sided := by apply g_one_sided <;> assumption
  have k0 : KF P w K mg base 4 "one_sided" ["relation"] ["relation"] [0] sp_one_sided := kf_of h_one_sided D7 (fun _ _ _ _ _ _ ws hl => match ws, hl with | [_], _ => rfl)
  have h_open_triple : GF P w K mg base 4 "open_triple" ["relation"] sp_open_triple := by apply g_open_triple <;> assumption
  have k1 : KF P w K mg base 4 "open_triple" ["relation"] ["relation"] [0] sp_open_triple := kf_of h_open_triple D8 (fun _ _ _ _ _ _ ws hl => match ws, hl with | [_], _ => rfl)
  have h_leaning : GF P w K mg base 4 "leaning" ["relation"] sp_leaning := by apply g_leaning <;> assumption
  have k2 : KF P w K mg base 4 "leaning" ["relation"] ["relation"] [0] sp_leaning := kf_of h_leaning D10 (fun _ _ _ _ _ _ ws hl => match ws, hl with | [_], _ => rfl)
  have h_lonely : GF P w K mg base 4 "lonely" ["relation"] sp_lonely := by apply g_lonely <;> assumption
  have k3 : KF P w K mg base 4 "lonely" ["relation"] ["relation"] [0] sp_lonely := kf_of h_lonely D13 (fun _ _ _ _ _ _ ws hl => match ws, hl with | [_], _ => rfl)
  have h_classes : GF P w K mg base 4 "classes" ["relation"] sp_classes := by apply g_classes <;> assumption
  have h_classesO : GF P w K mg base 4 "classes" ["relation"] sp_classesO := by apply g_classesO <;> assumption
  have k4 : KF P w K mg base 4 "classes" ["relation"] ["relation"] [0] sp_classesO := kf_of h_classesO D15 (fun _ _ _ _ _ _ ws hl => match ws, hl with | [_], _ => rfl)
  have h_l_right : GF P w K mg base 5 "_law_right" ["_law_draws_here"] sp_l_right := by apply g_l_right <;> assumption
  exact g_law T h_draws h_l_right F
theorem all_mk {l : PySem.W.OpenLaw} {w : World} {K : PySem.W.Frag} {h : Heap} {mg : Str → Option Value} {fa : Addr} (X : K.In h) (G : h.Ns mainGlobals mg) (hfa : mg "law" = some (.ref fa))
    {f0 : Addr} {od0 an0 : Option Addr} {sl0 : Array (Option Value)} {oc0 kV0 dc0 pm0 cd0 ct0 : Value}
    (a0 : PySem.W.nsIn K mainGlobals "is_whole" = some (some (.ref f0))) (l0 : K.lookup f0 = some ⟨oc0, od0, .func (PySem.W.fnOf "is_whole" "is_whole" (defArgs s_is_whole) (defBody s_is_whole) (defScope s_is_whole) .none kV0 dc0 pm0 an0 cd0 ct0), sl0⟩) (c0 : PySem.W.codeIn K cd0 "is_whole" = true) (k0 : PySem.W.keepIn K (.ref f0) = true)
    {f1 : Addr} {od1 an1 : Option Addr} {sl1 : Array (Option Value)} {oc1 kV1 dc1 pm1 cd1 ct1 : Value}
    (a1 : PySem.W.nsIn K mainGlobals "is_answer" = some (some (.ref f1))) (l1 : K.lookup f1 = some ⟨oc1, od1, .func (PySem.W.fnOf "is_answer" "is_answer" (defArgs s_is_answer) (defBody s_is_answer) (defScope s_is_answer) .none kV1 dc1 pm1 an1 cd1 ct1), sl1⟩) (c1 : PySem.W.codeIn K cd1 "is_answer" = true) (k1 : PySem.W.keepIn K (.ref f1) = true)
    {f2 : Addr} {od2 an2 : Option Addr} {sl2 : Array (Option Value)} {oc2 kV2 dc2 pm2 cd2 ct2 : Value}
    (a2 : PySem.W.nsIn K mainGlobals "check_relation" = some (some (.ref f2))) (l2 : K.lookup f2 = some ⟨oc2, od2, .func (PySem.W.fnOf "check_relation" "check_relation" (defArgs s_check_relation) (defBody s_check_relation) (defScope s_check_relation) .none kV2 dc2 pm2 an2 cd2 ct2), sl2⟩) (c2 : PySem.W.codeIn K cd2 "check_relation" = true) (k2 : PySem.W.keepIn K (.ref f2) = true)
    {f3 : Addr} {od3 an3 : Option Addr} {sl3 : Array (Option Value)} {oc3 kV3 dc3 pm3 cd3 ct3 : Value}
    (a3 : PySem.W.nsIn K mainGlobals "stands" = some (some (.ref f3))) (l3 : K.lookup f3 = some ⟨oc3, od3, .func (PySem.W.fnOf "stands" "stands" (defArgs s_stands) (defBody s_stands) (defScope s_stands) .none kV3 dc3 pm3 an3 cd3 ct3), sl3⟩) (c3 : PySem.W.codeIn K cd3 "stands" = true) (k3 : PySem.W.keepIn K (.ref f3) = true)
    {f4 : Addr} {od4 an4 : Option Addr} {sl4 : Array (Option Value)} {oc4 kV4 dc4 pm4 cd4 ct4 : Value}
    (a4 : PySem.W.nsIn K mainGlobals "first_of" = some (some (.ref f4))) (l4 : K.lookup f4 = some ⟨oc4, od4, .func (PySem.W.fnOf "first_of" "first_of" (defArgs s_first_of) (defBody s_first_of) (defScope s_first_of) .none kV4 dc4 pm4 an4 cd4 ct4), sl4⟩) (c4 : PySem.W.codeIn K cd4 "first_of" = true) (k4 : PySem.W.keepIn K (.ref f4) = true)
    {f5 : Addr} {od5 an5 : Option Addr} {sl5 : Array (Option Value)} {oc5 kV5 dc5 pm5 cd5 ct5 : Value}
    (a5 : PySem.W.nsIn K mainGlobals "one_sided_in" = some (some (.ref f5))) (l5 : K.lookup f5 = some ⟨oc5, od5, .func (PySem.W.fnOf "one_sided_in" "one_sided_in" (defArgs s_one_sided_in) (defBody s_one_sided_in) (defScope s_one_sided_in) .none kV5 dc5 pm5 an5 cd5 ct5), sl5⟩) (c5 : PySem.W.codeIn K cd5 "one_sided_in" = true) (k5 : PySem.W.keepIn K (.ref f5) = true)
    {f6 : Addr} {od6 an6 : Option Addr} {sl6 : Array (Option Value)} {oc6 kV6 dc6 pm6 cd6 ct6 : Value}
    (a6 : PySem.W.nsIn K mainGlobals "open_triples" = some (some (.ref f6))) (l6 : K.lookup f6 = some ⟨oc6, od6, .func (PySem.W.fnOf "open_triples" "open_triples" (defArgs s_open_triples) (defBody s_open_triples) (defScope s_open_triples) .none kV6 dc6 pm6 an6 cd6 ct6), sl6⟩) (c6 : PySem.W.codeIn K cd6 "open_triples" = true) (k6 : PySem.W.keepIn K (.ref f6) = true)
    {f7 : Addr} {od7 an7 : Option Addr} {sl7 : Array (Option Value)} {oc7 kV7 dc7 pm7 cd7 ct7 : Value}
    (a7 : PySem.W.nsIn K mainGlobals "one_sided" = some (some (.ref f7))) (l7 : K.lookup f7 = some ⟨oc7, od7, .func (PySem.W.fnOf "one_sided" "one_sided" (defArgs s_one_sided) (defBody s_one_sided) (defScope s_one_sided) .none kV7 dc7 pm7 an7 cd7 ct7), sl7⟩) (c7 : PySem.W.codeIn K cd7 "one_sided" = true) (k7 : PySem.W.keepIn K (.ref f7) = true)
    {f8 : Addr} {od8 an8 : Option Addr} {sl8 : Array (Option Value)} {oc8 kV8 dc8 pm8 cd8 ct8 : Value}
    (a8 : PySem.W.nsIn K mainGlobals "open_triple" = some (some (.ref f8))) (l8 : K.lookup f8 = some ⟨oc8, od8, .func (PySem.W.fnOf "open_triple" "open_triple" (defArgs s_open_triple) (defBody s_open_triple) (defScope s_open_triple) .none kV8 dc8 pm8 an8 cd8 ct8), sl8⟩) (c8 : PySem.W.codeIn K cd8 "open_triple" = true) (k8 : PySem.W.keepIn K (.ref f8) = true)
    {f9 : Addr} {od9 an9 : Option Addr} {sl9 : Array (Option Value)} {oc9 kV9 dc9 pm9 cd9 ct9 : Value}
    (a9 : PySem.W.nsIn K mainGlobals "leaning_in" = some (some (.ref f9))) (l9 : K.lookup f9 = some ⟨oc9, od9, .func (PySem.W.fnOf "leaning_in" "leaning_in" (defArgs s_leaning_in) (defBody s_leaning_in) (defScope s_leaning_in) .none kV9 dc9 pm9 an9 cd9 ct9), sl9⟩) (c9 : PySem.W.codeIn K cd9 "leaning_in" = true) (k9 : PySem.W.keepIn K (.ref f9) = true)
    {f10 : Addr} {od10 an10 : Option Addr} {sl10 : Array (Option Value)} {oc10 kV10 dc10 pm10 cd10 ct10 : Value}
    (a10 : PySem.W.nsIn K mainGlobals "leaning" = some (some (.ref f10))) (l10 : K.lookup f10 = some ⟨oc10, od10, .func (PySem.W.fnOf "leaning" "leaning" (defArgs s_leaning) (defBody s_leaning) (defScope s_leaning) .none kV10 dc10 pm10 an10 cd10 ct10), sl10⟩) (c10 : PySem.W.codeIn K cd10 "leaning" = true) (k10 : PySem.W.keepIn K (.ref f10) = true)
    {f11 : Addr} {od11 an11 : Option Addr} {sl11 : Array (Option Value)} {oc11 kV11 dc11 pm11 cd11 ct11 : Value}
    (a11 : PySem.W.nsIn K mainGlobals "are_strangers" = some (some (.ref f11))) (l11 : K.lookup f11 = some ⟨oc11, od11, .func (PySem.W.fnOf "are_strangers" "are_strangers" (defArgs s_are_strangers) (defBody s_are_strangers) (defScope s_are_strangers) .none kV11 dc11 pm11 an11 cd11 ct11), sl11⟩) (c11 : PySem.W.codeIn K cd11 "are_strangers" = true) (k11 : PySem.W.keepIn K (.ref f11) = true)
    {f12 : Addr} {od12 an12 : Option Addr} {sl12 : Array (Option Value)} {oc12 kV12 dc12 pm12 cd12 ct12 : Value}
    (a12 : PySem.W.nsIn K mainGlobals "lonely_in" = some (some (.ref f12))) (l12 : K.lookup f12 = some ⟨oc12, od12, .func (PySem.W.fnOf "lonely_in" "lonely_in" (defArgs s_lonely_in) (defBody s_lonely_in) (defScope s_lonely_in) .none kV12 dc12 pm12 an12 cd12 ct12), sl12⟩) (c12 : PySem.W.codeIn K cd12 "lonely_in" = true) (k12 : PySem.W.keepIn K (.ref f12) = true)
    {f13 : Addr} {od13 an13 : Option Addr} {sl13 : Array (Option Value)} {oc13 kV13 dc13 pm13 cd13 ct13 : Value}
    (a13 : PySem.W.nsIn K mainGlobals "lonely" = some (some (.ref f13))) (l13 : K.lookup f13 = some ⟨oc13, od13, .func (PySem.W.fnOf "lonely" "lonely" (defArgs s_lonely) (defBody s_lonely) (defScope s_lonely) .none kV13 dc13 pm13 an13 cd13 ct13), sl13⟩) (c13 : PySem.W.codeIn K cd13 "lonely" = true) (k13 : PySem.W.keepIn K (.ref f13) = true)
    {f14 : Addr} {od14 an14 : Option Addr} {sl14 : Array (Option Value)} {oc14 kV14 dc14 pm14 cd14 ct14 : Value}
    (a14 : PySem.W.nsIn K mainGlobals "has_classes" = some (some (.ref f14))) (l14 : K.lookup f14 = some ⟨oc14, od14, .func (PySem.W.fnOf "has_classes" "has_classes" (defArgs s_has_classes) (defBody s_has_classes) (defScope s_has_classes) .none kV14 dc14 pm14 an14 cd14 ct14), sl14⟩) (c14 : PySem.W.codeIn K cd14 "has_classes" = true) (k14 : PySem.W.keepIn K (.ref f14) = true)
    {f15 : Addr} {od15 an15 : Option Addr} {sl15 : Array (Option Value)} {oc15 kV15 dc15 pm15 cd15 ct15 : Value}
    (a15 : PySem.W.nsIn K mainGlobals "classes" = some (some (.ref f15))) (l15 : K.lookup f15 = some ⟨oc15, od15, .func (PySem.W.fnOf "classes" "classes" (defArgs s_classes) (defBody s_classes) (defScope s_classes) .none kV15 dc15 pm15 an15 cd15 ct15), sl15⟩) (c15 : PySem.W.codeIn K cd15 "classes" = true) (k15 : PySem.W.keepIn K (.ref f15) = true)
    {f16 : Addr} {od16 an16 : Option Addr} {sl16 : Array (Option Value)} {oc16 kV16 dc16 pm16 cd16 ct16 : Value}
    (a16 : PySem.W.nsIn K mainGlobals "_law_draws" = some (some (.ref f16))) (l16 : K.lookup f16 = some ⟨oc16, od16, .func (PySem.W.fnOf "_law_draws" "_law_draws" (defArgs s_draws) (defBody s_draws) (defScope s_draws) .none kV16 dc16 pm16 an16 cd16 ct16), sl16⟩) (c16 : PySem.W.codeIn K cd16 "_law_draws" = true) (k16 : PySem.W.keepIn K (.ref f16) = true)
    {f17 : Addr} {od17 an17 : Option Addr} {sl17 : Array (Option Value)} {oc17 kV17 dc17 pm17 cd17 ct17 : Value}
    (a17 : PySem.W.nsIn K mainGlobals "_law_next" = some (some (.ref f17))) (l17 : K.lookup f17 = some ⟨oc17, od17, .func (PySem.W.fnOf "_law_next" "_law_next" (defArgs s_next) (defBody s_next) (defScope s_next) .none kV17 dc17 pm17 an17 cd17 ct17), sl17⟩) (c17 : PySem.W.codeIn K cd17 "_law_next" = true) (k17 : PySem.W.keepIn K (.ref f17) = true)
    {f18 : Addr} {od18 an18 : Option Addr} {sl18 : Array (Option Value)} {oc18 kV18 dc18 pm18 cd18 ct18 : Value}
    (a18 : PySem.W.nsIn K mainGlobals "_law_closed" = some (some (.ref f18))) (l18 : K.lookup f18 = some ⟨oc18, od18, .func (PySem.W.fnOf "_law_closed" "_law_closed" (defArgs s_closed) (defBody s_closed) (defScope s_closed) .none kV18 dc18 pm18 an18 cd18 ct18), sl18⟩) (c18 : PySem.W.codeIn K cd18 "_law_closed" = true) (k18 : PySem.W.keepIn K (.ref f18) = true)
    {f19 : Addr} {od19 an19 : Option Addr} {sl19 : Array (Option Value)} {oc19 kV19 dc19 pm19 cd19 ct19 : Value}
    (a19 : PySem.W.nsIn K mainGlobals "_law_relation" = some (some (.ref f19))) (l19 : K.lookup f19 = some ⟨oc19, od19, .func (PySem.W.fnOf "_law_relation" "_law_relation" (defArgs s_relation) (defBody s_relation) (defScope s_relation) .none kV19 dc19 pm19 an19 cd19 ct19), sl19⟩) (c19 : PySem.W.codeIn K cd19 "_law_relation" = true) (k19 : PySem.W.keepIn K (.ref f19) = true)
    {f20 : Addr} {od20 an20 : Option Addr} {sl20 : Array (Option Value)} {oc20 kV20 dc20 pm20 cd20 ct20 : Value}
    (a20 : PySem.W.nsIn K mainGlobals "_law_triples" = some (some (.ref f20))) (l20 : K.lookup f20 = some ⟨oc20, od20, .func (PySem.W.fnOf "_law_triples" "_law_triples" (defArgs s_l_triples) (defBody s_l_triples) (defScope s_l_triples) .none kV20 dc20 pm20 an20 cd20 ct20), sl20⟩) (c20 : PySem.W.codeIn K cd20 "_law_triples" = true) (k20 : PySem.W.keepIn K (.ref f20) = true)
    {f21 : Addr} {od21 an21 : Option Addr} {sl21 : Array (Option Value)} {oc21 kV21 dc21 pm21 cd21 ct21 : Value}
    (a21 : PySem.W.nsIn K mainGlobals "_law_strangers" = some (some (.ref f21))) (l21 : K.lookup f21 = some ⟨oc21, od21, .func (PySem.W.fnOf "_law_strangers" "_law_strangers" (defArgs s_l_strangers) (defBody s_l_strangers) (defScope s_l_strangers) .none kV21 dc21 pm21 an21 cd21 ct21), sl21⟩) (c21 : PySem.W.codeIn K cd21 "_law_strangers" = true) (k21 : PySem.W.keepIn K (.ref f21) = true)
    {f22 : Addr} {od22 an22 : Option Addr} {sl22 : Array (Option Value)} {oc22 kV22 dc22 pm22 cd22 ct22 : Value}
    (a22 : PySem.W.nsIn K mainGlobals "_law_lonely" = some (some (.ref f22))) (l22 : K.lookup f22 = some ⟨oc22, od22, .func (PySem.W.fnOf "_law_lonely" "_law_lonely" (defArgs s_l_lonely) (defBody s_l_lonely) (defScope s_l_lonely) .none kV22 dc22 pm22 an22 cd22 ct22), sl22⟩) (c22 : PySem.W.codeIn K cd22 "_law_lonely" = true) (k22 : PySem.W.keepIn K (.ref f22) = true)
    {f23 : Addr} {od23 an23 : Option Addr} {sl23 : Array (Option Value)} {oc23 kV23 dc23 pm23 cd23 ct23 : Value}
    (a23 : PySem.W.nsIn K mainGlobals "_law_classes" = some (some (.ref f23))) (l23 : K.lookup f23 = some ⟨oc23, od23, .func (PySem.W.fnOf "_law_classes" "_law_classes" (defArgs s_l_classes) (defBody s_l_classes) (defScope s_l_classes) .none kV23 dc23 pm23 an23 cd23 ct23), sl23⟩) (c23 : PySem.W.codeIn K cd23 "_law_classes" = true) (k23 : PySem.W.keepIn K (.ref f23) = true)
    {f24 : Addr} {od24 an24 : Option Addr} {sl24 : Array (Option Value)} {oc24 kV24 dc24 pm24 cd24 ct24 : Value}
    (a24 : PySem.W.nsIn K mainGlobals "_law_right" = some (some (.ref f24))) (l24 : K.lookup f24 = some ⟨oc24, od24, .func (PySem.W.fnOf "_law_right" "_law_right" (defArgs s_l_right) (defBody s_l_right) (defScope s_l_right) .none kV24 dc24 pm24 an24 cd24 ct24), sl24⟩) (c24 : PySem.W.codeIn K cd24 "_law_right" = true) (k24 : PySem.W.keepIn K (.ref f24) = true)
    {f25 : Addr} {od25 an25 : Option Addr} {sl25 : Array (Option Value)} {oc25 kV25 dc25 pm25 cd25 ct25 : Value}
    (a25 : PySem.W.nsIn K mainGlobals "law" = some (some (.ref f25))) (l25 : K.lookup f25 = some ⟨oc25, od25, .func (PySem.W.fnOf "law" "law" (defArgs s_law) (defBody s_law) (defScope s_law) .none kV25 dc25 pm25 an25 cd25 ct25), sl25⟩) (c25 : PySem.W.codeIn K cd25 "law" = true) (k25 : PySem.W.keepIn K (.ref f25) = true)
    (z_len : PySem.W.nsIn K mainGlobals "len" = some none)
    (z_all : PySem.W.nsIn K mainGlobals "all" = some none)
    (z_any : PySem.W.nsIn K mainGlobals "any" = some none)
    (z_max : PySem.W.nsIn K mainGlobals "max" = some none)
    (z_min : PySem.W.nsIn K mainGlobals "min" = some none)
    (z_abs : PySem.W.nsIn K mainGlobals "abs" = some none)
    (z_sum : PySem.W.nsIn K mainGlobals "sum" = some none)
    (z_sorted : PySem.W.nsIn K mainGlobals "sorted" = some none)
    (z_isinstance : PySem.W.nsIn K mainGlobals "isinstance" = some none)
    (z_int : PySem.W.nsIn K mainGlobals "int" = some none)
    (z_bool : PySem.W.nsIn K mainGlobals "bool" = some none)
    (z_list : PySem.W.nsIn K mainGlobals "list" = some none)
    (z_range : PySem.W.nsIn K mainGlobals "range" = some none)
    (z_enumerate : PySem.W.nsIn K mainGlobals "enumerate" = some none)
    (z_zip : PySem.W.nsIn K mainGlobals "zip" = some none)
    (z_repr : PySem.W.nsIn K mainGlobals "repr" = some none)
    : ∃ fd : FuncData, (∀ (s : Shared) (u : Value), BindsTo s fd ⟨[u], []⟩ [("_law_script", u)]) ∧ ∀ base : Heap, K.In base → base.Ns mainGlobals mg → FnG l.prog w K mg base 6 fa fd ["_law_script"] (spLaw K CL) := by
  have e := hfa.symm.trans (PySem.W.mg_of X G a25)
  cases e
  have T : Bl mg := ⟨PySem.W.mg_none_of X G z_len, PySem.W.mg_none_of X G z_all, PySem.W.mg_none_of X G z_any, PySem.W.mg_none_of X G z_max, PySem.W.mg_none_of X G z_min, PySem.W.mg_none_of X G z_abs, PySem.W.mg_none_of X G z_sum, PySem.W.mg_none_of X G z_sorted, PySem.W.mg_none_of X G z_isinstance, PySem.W.mg_none_of X G z_int, PySem.W.mg_none_of X G z_bool, PySem.W.mg_none_of X G z_list, PySem.W.mg_none_of X G z_range, PySem.W.mg_none_of X G z_enumerate, PySem.W.mg_none_of X G z_zip, PySem.W.mg_none_of X G z_repr⟩
  exact ⟨_, fun s u => .of_eq rfl, fun base _ _ => all_gf T (df_mk X G a0 l0 c0 k0) (df_mk X G a1 l1 c1 k1) (df_mk X G a2 l2 c2 k2) (df_mk X G a3 l3 c3 k3) (df_mk X G a4 l4 c4 k4) (df_mk X G a5 l5 c5 k5) (df_mk X G a6 l6 c6 k6) (df_mk X G a7 l7 c7 k7) (df_mk X G a8 l8 c8 k8) (df_mk X G a9 l9 c9 k9) (df_mk X G a10 l10 c10 k10) (df_mk X G a11 l11 c11 k11) (df_mk X G a12 l12 c12 k12) (df_mk X G a13 l13 c13 k13) (df_mk X G a14 l14 c14 k14) (df_mk X G a15 l15 c15 k15) (df_mk X G a16 l16 c16 k16) (df_mk X G a17 l17 c17 k17) (df_mk X G a18 l18 c18 k18) (df_mk X G a19 l19 c19 k19) (df_mk X G a20 l20 c20 k20) (df_mk X G a21 l21 c21 k21) (df_mk X G a22 l22 c22 k22) (df_mk X G a23 l23 c23 k23) (df_mk X G a24 l24 c24 k24) (fun_mk (st := s_law) l25 c25 k25) base⟩
end O
open PySem PySem.W PyProof.Rows
set_option maxRecDepth 100000 in
set_option maxHeartbeats 0 in
theorem PySem.Challenge.cw_oddkeys_k02_properties_holds : PySem.Challenge.rw_oddkeys_k02_properties.Holds := by
  w_on; o_law; k_head; (case hw => w_witness2)
  k_fill
  refine J.walk_law (l := PySem.Challenge.rw_oddkeys_k02_properties) (n := 63) (k := 6) (x := "_law_script") rfl (by decide) rfl ⟨rfl, by decide, by decide⟩ (fun w h Y => PySem.W.kIn_of Y) ?F
  case F =>
    intro w mg fa h KX G hmg
    refine' O.all_mk KX G hmg ?a0 ?l0 ?c0 ?k0 ?a1 ?l1 ?c1 ?k1 ?a2 ?l2 ?c2 ?k2 ?a3 ?l3 ?c3 ?k3 ?a4 ?l4 ?c4 ?k4 ?a5 ?l5 ?c5 ?k5 ?a6 ?l6 ?c6 ?k6 ?a7 ?l7 ?c7 ?k7 ?a8 ?l8 ?c8 ?k8 ?a9 ?l9 ?c9 ?k9 ?a10 ?l10 ?c10 ?k10 ?a11 ?l11 ?c11 ?k11 ?a12 ?l12 ?c12 ?k12 ?a13 ?l13 ?c13 ?k13 ?a14 ?l14 ?c14 ?k14 ?a15 ?l15 ?c15 ?k15 ?a16 ?l16 ?c16 ?k16 ?a17 ?l17 ?c17 ?k17 ?a18 ?l18 ?c18 ?k18 ?a19 ?l19 ?c19 ?k19 ?a20 ?l20 ?c20 ?k20 ?a21 ?l21 ?c21 ?k21 ?a22 ?l22 ?c22 ?k22 ?a23 ?l23 ?c23 ?k23 ?a24 ?l24 ?c24 ?k24 ?a25 ?l25 ?c25 ?k25 ?z_len ?z_all ?z_any ?z_max ?z_min ?z_abs ?z_sum ?z_sorted ?z_isinstance ?z_int ?z_bool ?z_list ?z_range ?z_enumerate ?z_zip ?z_repr
    case a0 => k_is
    case l0 => k_is
    case c0 => k_is
    case k0 => k_is
    case a1 => k_is
    case l1 => k_is
    case c1 => k_is
    case k1 => k_is
    case a2 => k_is
    case l2 => k_is
    case c2 => k_is
    case k2 => k_is
    case a3 => k_is
    case l3 => k_is
    case c3 => k_is
    case k3 => k_is
    case a4 => k_is
    case l4 => k_is
    case c4 => k_is
    case k4 => k_is
    case a5 => k_is
    case l5 => k_is
    case c5 => k_is
    case k5 => k_is
    case a6 => k_is
    case l6 => k_is
    case c6 => k_is
    case k6 => k_is
    case a7 => k_is
    case l7 => k_is
    case c7 => k_is
    case k7 => k_is
    case a8 => k_is
    case l8 => k_is
    case c8 => k_is
    case k8 => k_is
    case a9 => k_is
    case l9 => k_is
    case c9 => k_is
    case k9 => k_is
    case a10 => k_is
    case l10 => k_is
    case c10 => k_is
    case k10 => k_is
    case a11 => k_is
    case l11 => k_is
    case c11 => k_is
    case k11 => k_is
    case a12 => k_is
    case l12 => k_is
    case c12 => k_is
    case k12 => k_is
    case a13 => k_is
    case l13 => k_is
    case c13 => k_is
    case k13 => k_is
    case a14 => k_is
    case l14 => k_is
    case c14 => k_is
    case k14 => k_is
    case a15 => k_is
    case l15 => k_is
    case c15 => k_is
    case k15 => k_is
    case a16 => k_is
    case l16 => k_is
    case c16 => k_is
    case k16 => k_is
    case a17 => k_is
    case l17 => k_is
    case c17 => k_is
    case k17 => k_is
    case a18 => k_is
    case l18 => k_is
    case c18 => k_is
    case k18 => k_is
    case a19 => k_is
    case l19 => k_is
    case c19 => k_is
    case k19 => k_is
    case a20 => k_is
    case l20 => k_is
    case c20 => k_is
    case k20 => k_is
    case a21 => k_is
    case l21 => k_is
    case c21 => k_is
    case k21 => k_is
    case a22 => k_is
    case l22 => k_is
    case c22 => k_is
    case k22 => k_is
    case a23 => k_is
    case l23 => k_is
    case c23 => k_is
    case k23 => k_is
    case a24 => k_is
    case l24 => k_is
    case c24 => k_is
    case k24 => k_is
    case a25 => k_is
    case l25 => k_is
    case c25 => k_is
    case k25 => k_is
    case z_len => k_is
    case z_all => k_is
    case z_any => k_is
    case z_max => k_is
    case z_min => k_is
    case z_abs => k_is
    case z_sum => k_is
    case z_sorted => k_is
    case z_isinstance => k_is
    case z_int => k_is
    case z_bool => k_is
    case z_list => k_is
    case z_range => k_is
    case z_enumerate => k_is
    case z_zip => k_is
    case z_repr => k_is
