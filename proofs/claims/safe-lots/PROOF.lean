import PyProof.Rows.All
import Wide.All
import OpenK.AllK
import Wide.FinOn
import HandS.ForMost
import HandS.Conv
import HandS.RepeatKit
import HandS.MapObj
import HandS.Walk
import HandS.Exc
import HandS.ExcOwn
import HandS.ExcInit
import HandS.ExcIs
import HandS.ExcField
import HandS.TryOnly
import HandS.TryMany
import KE.KExcSuper
import KE.KSuper
import HandS.WordsExc
import HandS.Evl
import HandS.IsInst
import HandS.TupAny
import HandS.Steps
import HandS.TupMul
import HandS.Defaults
import HandS.More
import HandS.DictComp
import HandS.HeadHook4
import HandS.Head3
import KE.GoesEnum
import PyProof.EnumMake
import HandS.Lambda
import HandS.SortKw
import KE.SortKeyHeap
import KE.DataMinMax
import PyProof.ReprRoads
import PyProof.ReprLen
import HandS.EndTab
import HandS.HeadWalk
import PySem.Challenge.RW_lightfirst_k63_whole_lightest_safe_lots
section
/-! spans modulo p of rows of integers, told by an inductive predicate -/
namespace Mth

def dv (p a : Int) : Prop := p ∣ a

/-- what rows make, modulo p, on the places below n -/
inductive Sp (p : Int) (n : Nat) (R : List (List Int)) : (Nat → Int) → Prop
  | zero (v : Nat → Int) (h : ∀ i, i < n → p ∣ v i) : Sp p n R v
  | add (v w : Nat → Int) (r : List Int) (c : Int) (hv : Sp p n R v) (hr : r ∈ R) (h : ∀ i, i < n → p ∣ (w i - v i - c * r.getD i 0)) : Sp p n R w

def fn (r : List Int) : Nat → Int := fun i => r.getD i 0

theorem dvd_lin {p a b : Int} (x y : Int) (ha : p ∣ a) (hb : p ∣ b) : p ∣ x * a + y * b :=
  Int.dvd_add (Int.dvd_mul_of_dvd_right ha) (Int.dvd_mul_of_dvd_right hb)

theorem dvd_of_eq_lin {p a b c : Int} (x y : Int) (ha : p ∣ a) (hb : p ∣ b) (e : c = x * a + y * b) : p ∣ c := by
  rw [e]; exact dvd_lin x y ha hb

section
variable {p : Int} {n : Nat} {R R' : List (List Int)} {v w : Nat → Int}

theorem Sp.congr (h : Sp p n R v) (e : ∀ i, i < n → p ∣ (w i - v i)) : Sp p n R w := by
  cases h with
  | zero _ h =>
    exact .zero w fun i hi => by
      have := Int.dvd_add (e i hi) (h i hi)
      rwa [Int.sub_add_cancel] at this
  | add v0 _ r c hv hr h =>
    exact .add v0 w r c hv hr fun i hi => by
      have := Int.dvd_add (e i hi) (h i hi)
      have q : w i - v i + (v i - v0 i - c * r.getD i 0) = w i - v0 i - c * r.getD i 0 := by omega
      rwa [q] at this

theorem Sp.sum (h : Sp p n R v) (k : Sp p n R w) : Sp p n R (fun i => v i + w i) := by
  induction k with
  | zero w hw =>
    exact h.congr fun i hi => by
      have q : v i + w i - v i = w i := by omega
      rw [q]; exact hw i hi
  | add w0 w r c _ hr e ih =>
    exact .add _ _ r c ih hr fun i hi => by
      have q : v i + w i - (v i + w0 i) - c * r.getD i 0 = w i - w0 i - c * r.getD i 0 := by omega
      rw [q]; exact e i hi

theorem Sp.smul (d : Int) (h : Sp p n R v) : Sp p n R (fun i => d * v i) := by
  induction h with
  | zero v hv => exact .zero _ fun i hi => Int.dvd_mul_of_dvd_right (hv i hi)
  | add v0 v r c _ hr e ih =>
    exact .add _ _ r (d * c) ih hr fun i hi => by
      have q : d * v i - d * v0 i - d * c * r.getD i 0 = d * (v i - v0 i - c * r.getD i 0) := by
        rw [Int.mul_sub, Int.mul_sub, Int.mul_assoc]
      rw [q]; exact Int.dvd_mul_of_dvd_right (e i hi)

theorem Sp.mem {r : List Int} (h : r ∈ R) : Sp p n R (fn r) :=
  .add (fun _ => 0) _ r 1 (.zero _ fun _ _ => Int.dvd_zero p) h fun i _ => by
    have q : fn r i - 0 - 1 * r.getD i 0 = 0 := by unfold fn; omega
    rw [q]; exact Int.dvd_zero p

theorem Sp.trans (h : Sp p n R v) (k : ∀ r, r ∈ R → Sp p n R' (fn r)) : Sp p n R' v := by
  induction h with
  | zero v hv => exact .zero _ hv
  | add v0 v r c _ hr e ih =>
    exact ((ih.sum ((k r hr).smul c))).congr fun i hi => by
      have q : v i - (v0 i + c * fn r i) = v i - v0 i - c * r.getD i 0 := by unfold fn; omega
      rw [q]; exact e i hi

theorem Sp.mono (h : Sp p n R v) (k : ∀ r, r ∈ R → r ∈ R') : Sp p n R' v := h.trans fun r hr => .mem (k r hr)

theorem Sp.lin (x y : Int) (h : Sp p n R v) (k : Sp p n R w) {u : Nat → Int} (e : ∀ i, i < n → p ∣ (u i - (x * v i + y * w i))) : Sp p n R u :=
  ((h.smul x).sum (k.smul y)).congr e

/-- a unit times it is made: so is it -/
theorem Sp.of_unit {u d : Int} (hu : p ∣ (d * u - 1)) (h : Sp p n R (fun i => u * v i)) : Sp p n R v :=
  (h.smul d).congr fun i _ => by
    have q : v i - d * (u * v i) = (- v i) * (d * u - 1) := by
      rw [Int.mul_sub, Int.neg_mul, Int.mul_one]
      have : v i * (d * u) = d * (u * v i) := by rw [Int.mul_comm (v i) (d * u), Int.mul_assoc]
      omega
    rw [q]; exact Int.dvd_mul_of_dvd_right hu

/-- all is made -/
def Full (p : Int) (n : Nat) (R : List (List Int)) : Prop := ∀ v, Sp p n R v
theorem Full.mono (h : Full p n R) (k : ∀ r, r ∈ R → r ∈ R') : Full p n R' := fun v => (h v).mono k
theorem Full.trans (h : Full p n R) (k : ∀ r, r ∈ R → Sp p n R' (fn r)) : Full p n R' := fun v => (h v).trans k
end

/-! ### stairs: rows with places; the j-th is 0 at the places of those ahead of it, and a unit at its own -/
/-- bs: (place, row), in any order of places; ahead: each row is 0 at the places of the rows ahead of it -/
def Stair (p : Int) (n : Nat) : List (Nat × List Int) → Prop
  | [] => True
  | b :: bs => b.1 < n ∧ (∃ d, p ∣ (d * b.2.getD b.1 0 - 1)) ∧ (∀ c, c ∈ bs → c.1 ≠ b.1 ∧ p ∣ c.2.getD b.1 0) ∧ Stair p n bs

/-- a vector made of a stair that is 0 at all its places is 0 everywhere -/
theorem stair_zero {p : Int} {n : Nat} : ∀ {bs : List (Nat × List Int)} {v : Nat → Int}, Stair p n bs → Sp p n (bs.map (·.2)) v → (∀ b, b ∈ bs → p ∣ v b.1) → ∀ i, i < n → p ∣ v i
  | [], v, _, h, _, i, hi => by
    cases h with
    | zero _ h => exact h i hi
    | add _ _ _ _ _ hr _ => cases hr
  | b :: bs, v, hs, h, hz, i, hi => by
    obtain ⟨h1, ⟨d, hd⟩, h3, h4⟩ := hs
    -- v = c * b + (what the rest makes)
    have key : ∀ {u : Nat → Int}, Sp p n ((b :: bs).map (·.2)) u → ∃ (c : Int) (w : Nat → Int), Sp p n (bs.map (·.2)) w ∧ ∀ i, i < n → p ∣ (u i - c * b.2.getD i 0 - w i) := by
      intro u hu
      induction hu with
      | zero u hu =>
        exact ⟨0, fun _ => 0, .zero _ fun _ _ => Int.dvd_zero p, fun i hi => by
          have q : u i - 0 * b.2.getD i 0 - 0 = u i := by omega
          rw [q]; exact hu i hi⟩
      | add u0 u r c _ hr e ih =>
        obtain ⟨c0, w0, hw, he⟩ := ih
        rcases List.mem_cons.mp (show r ∈ b.2 :: bs.map (·.2) from hr) with hr | hr
        · refine ⟨c0 + c, w0, hw, fun i hi => ?_⟩
          have q : u i - (c0 + c) * b.2.getD i 0 - w0 i = (u i - u0 i - c * r.getD i 0) + (u0 i - c0 * b.2.getD i 0 - w0 i) := by
            rw [hr, Int.add_mul]; omega
          rw [q]; exact Int.dvd_add (e i hi) (he i hi)
        · refine ⟨c0, fun i => w0 i + c * r.getD i 0, .add w0 _ r c hw hr fun i hi => ?_, fun i hi => ?_⟩
          · have q : w0 i + c * r.getD i 0 - w0 i - c * r.getD i 0 = 0 := by omega
            rw [q]; exact Int.dvd_zero p
          · have q : u i - c0 * b.2.getD i 0 - (w0 i + c * r.getD i 0) = (u i - u0 i - c * r.getD i 0) + (u0 i - c0 * b.2.getD i 0 - w0 i) := by omega
            rw [q]; exact Int.dvd_add (e i hi) (he i hi)
    obtain ⟨c, w, hw, he⟩ := key h
    -- at b's place what the rest makes is 0
    have wz : ∀ {w : Nat → Int}, Sp p n (bs.map (·.2)) w → p ∣ w b.1 := by
      intro w hw
      induction hw with
      | zero w hw => exact hw b.1 h1
      | add w0 w r c _ hr e ih =>
        obtain ⟨x, hx, rfl⟩ := List.mem_map.mp hr
        have a1 := (h3 x hx).2
        have a2 := e b.1 h1
        have q : w b.1 = (w b.1 - w0 b.1 - c * x.2.getD b.1 0) + (w0 b.1 + c * x.2.getD b.1 0) := by omega
        rw [q]; exact Int.dvd_add a2 (Int.dvd_add ih (Int.dvd_mul_of_dvd_right a1))
    have c0 : p ∣ c := by
      have a1 := he b.1 h1
      have a2 := hz b (List.mem_cons_self ..)
      have a3 := wz hw
      have a4 : p ∣ c * b.2.getD b.1 0 := by
        have q : c * b.2.getD b.1 0 = (v b.1 - w b.1) - (v b.1 - c * b.2.getD b.1 0 - w b.1) := by omega
        rw [q]; exact Int.dvd_sub (Int.dvd_sub a2 a3) a1
      have q : c = d * (c * b.2.getD b.1 0) - c * (d * b.2.getD b.1 0 - 1) := by
        rw [Int.mul_sub, Int.mul_one]
        have : d * (c * b.2.getD b.1 0) = c * (d * b.2.getD b.1 0) := by
          rw [← Int.mul_assoc, ← Int.mul_assoc, Int.mul_comm d c]
        omega
      rw [q]; exact Int.dvd_sub (Int.dvd_mul_of_dvd_right a4) (Int.dvd_mul_of_dvd_right hd)
    have vw : ∀ i, i < n → p ∣ (v i - w i) := fun i hi => by
      have q : v i - w i = (v i - c * b.2.getD i 0 - w i) + c * b.2.getD i 0 := by omega
      rw [q]; exact Int.dvd_add (he i hi) (Int.dvd_mul_of_dvd_left c0)
    have wi := stair_zero h4 hw (fun x hx => by
      have hx1 : x.1 < n := by
        have : ∀ {l : List (Nat × List Int)}, Stair p n l → ∀ y, y ∈ l → y.1 < n := by
          intro l
          induction l with
          | nil => intro _ y hy; cases hy
          | cons z l ih =>
            intro hs y hy
            rcases List.mem_cons.mp hy with rfl | hy
            · exact hs.1
            · exact ih hs.2.2.2 y hy
        exact this h4 x hx
      have a1 := hz x (List.mem_cons_of_mem _ hx)
      have a2 := vw x.1 hx1
      have q : w x.1 = v x.1 - (v x.1 - w x.1) := by omega
      rw [q]; exact Int.dvd_sub a1 a2) i hi
    have q : v i = (v i - w i) + w i := by omega
    rw [q]; exact Int.dvd_add (vw i hi) wi

theorem Stair.lt {p : Int} {n : Nat} : ∀ {l : List (Nat × List Int)}, Stair p n l → ∀ y, y ∈ l → y.1 < n
  | [], _, y, hy => by cases hy
  | z :: l, hs, y, hy => by
    rcases List.mem_cons.mp hy with rfl | hy
    · exact hs.1
    · exact Stair.lt hs.2.2.2 y hy
theorem Stair.nodup {p : Int} {n : Nat} : ∀ {l : List (Nat × List Int)}, Stair p n l → (l.map (·.1)).Nodup
  | [], _ => List.nodup_nil
  | z :: l, hs => by
    rw [List.map_cons, List.nodup_cons]
    refine ⟨fun h => ?_, Stair.nodup hs.2.2.2⟩
    obtain ⟨y, hy, e⟩ := List.mem_map.mp h
    exact (hs.2.2.1 y hy).1 e
theorem Stair.snoc {p : Int} {n : Nat} {b : Nat × List Int} (hb : b.1 < n) (hu : ∃ d, p ∣ (d * b.2.getD b.1 0 - 1)) : ∀ {l : List (Nat × List Int)}, Stair p n l → (∀ c, c ∈ l → c.1 ≠ b.1 ∧ p ∣ b.2.getD c.1 0) → Stair p n (l ++ [b])
  | [], _, _ => ⟨hb, hu, (fun _ h => nomatch h), trivial⟩
  | c :: l, hs, h => by
    refine ⟨hs.1, hs.2.1, fun x hx => ?_, Stair.snoc hb hu hs.2.2.2 fun x hx => h x (List.mem_cons_of_mem _ hx)⟩
    rcases List.mem_append.mp hx with hx | hx
    · exact hs.2.2.1 x hx
    · rcases List.mem_cons.mp hx with rfl | hx
      · exact ⟨Ne.symm (h c (List.mem_cons_self ..)).1, (h c (List.mem_cons_self ..)).2⟩
      · cases hx
end Mth
end

section
namespace Mth
theorem dvd_of_emod {p x c : Int} (h : x % p = c) : p ∣ (x - c) := ⟨x / p, by
  have := Int.emod_add_mul_ediv x p
  omega⟩
theorem zero_of_dvd {p x : Int} (h0 : 0 ≤ x) (h1 : x < p) (hd : p ∣ x) : x = 0 := by
  have := Int.emod_eq_zero_of_dvd hd
  rw [Int.emod_eq_of_lt h0 h1] at this
  exact this

theorem nodup_len {α : Type} [DecidableEq α] : ∀ {l m : List α}, l.Nodup → (∀ x, x ∈ l → x ∈ m) → l.length ≤ m.length
  | [], _, _, _ => Nat.zero_le _
  | x :: l, m, h, k => by
    rw [List.nodup_cons] at h
    have hx : x ∈ m := k x (List.mem_cons_self ..)
    have h2 := nodup_len (m := m.erase x) h.2 fun y hy => by
      refine (List.mem_erase_of_ne ?_).mpr (k y (List.mem_cons_of_mem _ hy))
      rintro rfl
      exact h.1 hy
    have h3 := List.length_erase_of_mem hx
    have h4 : 0 < m.length := List.length_pos_of_mem hx
    rw [List.length_cons]
    omega

theorem pigeon {n : Nat} {l : List Nat} (h : l.Nodup) (hl : ∀ x, x ∈ l → x < n) : l.length = n ↔ ∀ i, i < n → i ∈ l := by
  constructor
  · intro e i hi
    refine Classical.byContradiction fun hn => ?_
    have h1 : (i :: l).Nodup := List.nodup_cons.mpr ⟨hn, h⟩
    have h2 := nodup_len (m := List.range n) h1 fun y hy => by
      rcases List.mem_cons.mp hy with rfl | hy
      · exact List.mem_range.mpr hi
      · exact List.mem_range.mpr (hl y hy)
    rw [List.length_range, List.length_cons] at h2
    omega
  · intro k
    have h1 := nodup_len (m := List.range n) h fun y hy => List.mem_range.mpr (hl y hy)
    have h2 := nodup_len (l := List.range n) (m := l) List.nodup_range fun y hy => k y (List.mem_range.mp hy)
    rw [List.length_range] at h1 h2
    omega

/-- every vector, less what a stair makes, is 0 at its places -/
theorem stair_reduce {p : Int} {n : Nat} : ∀ {bs : List (Nat × List Int)}, Stair p n bs → ∀ v : Nat → Int, ∃ w : Nat → Int, Sp p n (bs.map (·.2)) (fun i => v i - w i) ∧ ∀ b, b ∈ bs → p ∣ w b.1
  | [], _, v => ⟨v, .zero _ fun i _ => by
      show p ∣ v i - v i
      rw [Int.sub_self]; exact Int.dvd_zero p, fun b hb => nomatch hb⟩
  | b :: bs, hs, v => by
    obtain ⟨h1, ⟨d, hd⟩, h3, h4⟩ := hs
    obtain ⟨w, hw, hz⟩ := stair_reduce h4 (fun i => v i - v b.1 * d * b.2.getD i 0)
    refine ⟨w, ?_, fun c hc => ?_⟩
    · refine .add (fun i => v i - v b.1 * d * b.2.getD i 0 - w i) _ b.2 (v b.1 * d) (hw.mono fun r hr => List.mem_cons_of_mem _ hr) (List.mem_cons_self ..) fun i _ => ?_
      have q : v i - w i - (v i - v b.1 * d * b.2.getD i 0 - w i) - v b.1 * d * b.2.getD i 0 = 0 := by omega
      rw [q]; exact Int.dvd_zero p
    · rcases List.mem_cons.mp hc with rfl | hc
      · -- at b's own place
        have wz : ∀ {u : Nat → Int}, Sp p n (bs.map (·.2)) u → p ∣ u c.1 := by
          intro u hu
          induction hu with
          | zero w hw => exact hw c.1 h1
          | add w0 w r e _ hr he ih =>
            obtain ⟨x, hx, rfl⟩ := List.mem_map.mp hr
            have a1 := (h3 x hx).2
            have a2 := he c.1 h1
            have q : w c.1 = (w c.1 - w0 c.1 - e * x.2.getD c.1 0) + (w0 c.1 + e * x.2.getD c.1 0) := by omega
            rw [q]; exact Int.dvd_add a2 (Int.dvd_add ih (Int.dvd_mul_of_dvd_right a1))
        have a1 := wz hw
        have q : w c.1 = - (v c.1 * (d * c.2.getD c.1 0 - 1)) - (v c.1 - v c.1 * d * c.2.getD c.1 0 - w c.1) := by
          rw [Int.mul_sub, Int.mul_one, ← Int.mul_assoc]; omega
        rw [q]
        exact Int.dvd_sub (Int.dvd_neg.mpr (Int.dvd_mul_of_dvd_right hd)) a1
      · exact hz c hc

theorem stair_full {p : Int} {n : Nat} {bs : List (Nat × List Int)} (hp : 2 ≤ p) (hs : Stair p n bs) : bs.length = n ↔ Full p n (bs.map (·.2)) := by
  have e : bs.length = (bs.map (·.1)).length := (List.length_map ..).symm
  rw [e, pigeon hs.nodup fun x hx => by
    obtain ⟨b, hb, rfl⟩ := List.mem_map.mp hx
    exact hs.lt b hb]
  constructor
  · intro k v
    obtain ⟨w, hw, hz⟩ := stair_reduce hs v
    refine hw.congr fun i hi => ?_
    obtain ⟨b, hb, hbi⟩ := List.mem_map.mp (k i hi)
    have a := hz b hb
    rw [hbi] at a
    have q : v i - (v i - w i) = w i := by omega
    rw [q]; exact a
  · intro k i hi
    refine Classical.byContradiction fun hn => ?_
    have h1 := stair_zero hs (k (fun j => if j = i then 1 else 0)) (fun b hb => by
      have : b.1 ≠ i := fun z => hn (by rw [← z]; exact List.mem_map.mpr ⟨b, hb, rfl⟩)
      show p ∣ (if b.1 = i then (1 : Int) else 0)
      rw [if_neg this]; exact Int.dvd_zero p) i hi
    have h2 : p ∣ 1 := by
      have : (if i = i then (1 : Int) else 0) = 1 := if_pos rfl
      rw [← this]; exact h1
    have h3 := Int.le_of_dvd (by decide) h2
    omega

def IsRow (p : Int) (n : Nat) (r : List Int) : Prop := r.length = n ∧ ∀ x, x ∈ r → 0 ≤ x ∧ x < p
theorem IsRow.at {p : Int} {n : Nat} {r : List Int} (h : IsRow p n r) {i : Nat} (hi : i < n) : 0 ≤ r.getD i 0 ∧ r.getD i 0 < p := by
  have h1 : i < r.length := by rw [h.1]; exact hi
  have e : r.getD i 0 = r[i] := by simp [h1]
  rw [e]; exact h.2 _ (List.getElem_mem h1)

/-- each value but 0 has its inverse -/
def Inv (p : Int) : Prop := ∀ x : Int, 0 < x → x < p → ∃ d : Int, 1 ≤ d ∧ d < p ∧ d * x % p = 1
theorem Inv.unit {p : Int} (h : Inv p) {x : Int} (h0 : 0 ≤ x) (h1 : x < p) (hx : x ≠ 0) : ∃ d, p ∣ (d * x - 1) := by
  obtain ⟨d, _, _, e⟩ := h x (by omega) h1
  exact ⟨d, dvd_of_emod e⟩

/-- a vector that is 0 everywhere, modulo p, with values below p -/
theorem row_zero {p : Int} {n : Nat} {r : List Int} (h : IsRow p n r) {i : Nat} (hi : i < n) (hd : p ∣ r.getD i 0) : r.getD i 0 = 0 := by
  obtain ⟨h0, h1⟩ := h.at hi
  exact zero_of_dvd h0 h1 hd

/-! ### A: rows kept in their least form -/
structure RF (p : Int) (n : Nat) (kept : List (Nat × List Int)) : Prop where
  lt : ∀ b, b ∈ kept → b.1 < n
  row : ∀ b, b ∈ kept → IsRow p n b.2
  one : ∀ b, b ∈ kept → b.2.getD b.1 0 = 1
  zero : ∀ b, b ∈ kept → ∀ c, c ∈ kept → b.1 ≠ c.1 → b.2.getD c.1 0 = 0
  nd : (kept.map (·.1)).Nodup
theorem RF.nil {p : Int} {n : Nat} : RF p n [] := ⟨fun _ h => (nomatch h), fun _ h => (nomatch h), fun _ h => (nomatch h), fun _ h => (nomatch h), List.nodup_nil⟩
theorem RF.stair {p : Int} {n : Nat} : ∀ {kept : List (Nat × List Int)}, RF p n kept → Stair p n kept
  | [], _ => trivial
  | b :: bs, h => by
    have hn := h.nd
    rw [List.map_cons, List.nodup_cons] at hn
    have ne : ∀ c, c ∈ bs → c.1 ≠ b.1 := fun c hc e => hn.1 (by rw [← e]; exact List.mem_map.mpr ⟨c, hc, rfl⟩)
    refine ⟨h.lt b (List.mem_cons_self ..), ⟨1, by rw [h.one b (List.mem_cons_self ..)]; exact Int.dvd_zero p⟩, fun c hc => ⟨ne c hc, ?_⟩, RF.stair ⟨fun c hc => h.lt c (List.mem_cons_of_mem _ hc), fun c hc => h.row c (List.mem_cons_of_mem _ hc),
      fun c hc => h.one c (List.mem_cons_of_mem _ hc), fun c hc d hd => h.zero c (List.mem_cons_of_mem _ hc) d (List.mem_cons_of_mem _ hd), hn.2⟩⟩
    rw [h.zero c (List.mem_cons_of_mem _ hc) b (List.mem_cons_self ..) (ne c hc)]
    exact Int.dvd_zero p

/-- two lots of rows make the same -/
def Same (p : Int) (n : Nat) (A B : List (List Int)) : Prop := (∀ r, r ∈ A → Sp p n B (fn r)) ∧ ∀ r, r ∈ B → Sp p n A (fn r)
theorem Same.full {p : Int} {n : Nat} {A B : List (List Int)} (h : Same p n A B) : Full p n A ↔ Full p n B := ⟨fun k => k.trans h.1, fun k => k.trans h.2⟩
theorem Same.nil {p : Int} {n : Nat} : Same p n [] [] := ⟨fun _ h => (nomatch h), fun _ h => (nomatch h)⟩

/-- row less t times other -/
def less (p : Int) (row : List Int) (t : Int) (other : List Int) : List Int := List.zipWith (fun a b => (a - t * b) % p) row other
theorem less_row {p : Int} {n : Nat} {r o : List Int} {t : Int} (hp : 0 < p) (hr : r.length = n) (ho : o.length = n) : IsRow p n (less p r t o) := by
  refine ⟨by unfold less; rw [List.length_zipWith, hr, ho, Nat.min_self], fun x hx => ?_⟩
  unfold less at hx
  obtain ⟨i, hi, rfl⟩ := List.getElem_of_mem hx
  rw [List.getElem_zipWith]
  exact ⟨Int.emod_nonneg _ (by omega), Int.emod_lt_of_pos _ hp⟩
theorem less_at {p : Int} {n : Nat} {r o : List Int} {t : Int} (hr : r.length = n) (ho : o.length = n) {i : Nat} (hi : i < n) : (less p r t o).getD i 0 = (r.getD i 0 - t * o.getD i 0) % p := by
  have h1 : i < r.length := by omega
  have h2 : i < o.length := by omega
  have h3 : i < (List.zipWith (fun a b => (a - t * b) % p) r o).length := by rw [List.length_zipWith]; omega
  unfold less
  rw [List.getD_eq_getElem?_getD, List.getElem?_eq_getElem h3, List.getElem_zipWith, List.getD_eq_getElem?_getD, List.getElem?_eq_getElem h1, List.getD_eq_getElem?_getD, List.getElem?_eq_getElem h2]
  rfl
theorem less_dvd {p : Int} {n : Nat} {r o : List Int} {t : Int} (hr : r.length = n) (ho : o.length = n) {i : Nat} (hi : i < n) : p ∣ ((less p r t o).getD i 0 - (r.getD i 0 - t * o.getD i 0)) := by
  rw [less_at hr ho hi]
  exact ⟨- ((r.getD i 0 - t * o.getD i 0) / p), by
    have := Int.emod_add_mul_ediv (r.getD i 0 - t * o.getD i 0) p
    rw [Int.mul_neg]; omega⟩

/-- what falling gives: row less what the kept rows make, 0 at the places seen so far -/
structure Fell (p : Int) (n : Nat) (kept : List (Nat × List Int)) (row0 row : List Int) (seen : List Nat) : Prop where
  made : Sp p n (kept.map (·.2)) (fun i => row0.getD i 0 - row.getD i 0)
  isrow : IsRow p n row
  zero : ∀ x, x ∈ seen → row.getD x 0 = 0
section
variable {p : Int} {n : Nat} {kept : List (Nat × List Int)} {row0 row : List Int} {seen : List Nat}
theorem Fell.start (h : IsRow p n row) : Fell p n kept row row [] := ⟨.zero _ fun i _ => (by
  show p ∣ row.getD i 0 - row.getD i 0
  rw [Int.sub_self]; exact Int.dvd_zero p), h, fun _ h => (nomatch h)⟩
theorem Fell.skip {b : Nat} (h : Fell p n kept row0 row seen) (hz : row.getD b 0 = 0) : Fell p n kept row0 row (seen ++ [b]) :=
  ⟨h.made, h.isrow, fun x hx => by
    rcases List.mem_append.mp hx with hx | hx
    · exact h.zero x hx
    · rw [List.mem_singleton.mp hx]; exact hz⟩
theorem Fell.step {b : Nat × List Int} (hp : 2 ≤ p) (rf : RF p n kept) (hb : b ∈ kept) (hs : ∀ x, x ∈ seen → x ≠ b.1 ∧ ∃ c, c ∈ kept ∧ c.1 = x) (h : Fell p n kept row0 row seen) :
    Fell p n kept row0 (less p row (row.getD b.1 0) b.2) (seen ++ [b.1]) := by
  have lb := rf.lt b hb
  have hr := h.isrow.1
  have ho := (rf.row b hb).1
  refine ⟨?_, less_row (by omega) hr ho, fun x hx => ?_⟩
  · refine .add _ _ b.2 (row.getD b.1 0) h.made (List.mem_map.mpr ⟨b, hb, rfl⟩) fun i hi => ?_
    have a := less_dvd (p := p) (t := row.getD b.1 0) hr ho hi
    have q : row0.getD i 0 - (less p row (row.getD b.1 0) b.2).getD i 0 - (row0.getD i 0 - row.getD i 0) - row.getD b.1 0 * b.2.getD i 0 = -((less p row (row.getD b.1 0) b.2).getD i 0 - (row.getD i 0 - row.getD b.1 0 * b.2.getD i 0)) := by omega
    rw [q]; exact Int.dvd_neg.mpr a
  · rcases List.mem_append.mp hx with hx | hx
    · obtain ⟨ne, c, hc, ec⟩ := hs x hx
      have lx : x < n := by rw [← ec]; exact rf.lt c hc
      rw [less_at hr ho lx, h.zero x hx]
      have : b.2.getD x 0 = 0 := by rw [← ec]; exact rf.zero b hb c hc (by rw [ec]; exact Ne.symm ne)
      rw [this, Int.mul_zero]; rfl
    · rw [List.mem_singleton.mp hx, less_at hr ho lb, rf.one b hb, Int.mul_one, Int.sub_self]; rfl
end

/-- the row made 1 at its place -/
def times (p : Int) (row : List Int) (t : Int) : List Int := row.map fun v => v * t % p
theorem times_row {p : Int} {n : Nat} {r : List Int} {t : Int} (hp : 0 < p) (hr : r.length = n) : IsRow p n (times p r t) := by
  refine ⟨by unfold times; rw [List.length_map, hr], fun x hx => ?_⟩
  unfold times at hx
  obtain ⟨y, _, rfl⟩ := List.mem_map.mp hx
  exact ⟨Int.emod_nonneg _ (by omega), Int.emod_lt_of_pos _ hp⟩
theorem times_at {p : Int} {n : Nat} {r : List Int} {t : Int} (hr : r.length = n) {i : Nat} (hi : i < n) : (times p r t).getD i 0 = r.getD i 0 * t % p := by
  have h1 : i < r.length := by omega
  unfold times
  simp [h1]
theorem emod_dvd (x p : Int) : p ∣ (x % p - x) := ⟨- (x / p), by
  have := Int.emod_add_mul_ediv x p
  rw [Int.mul_neg]; omega⟩

/-- a row taken: what is left, made 1 at its place, and the others less it -/
def takenRows (p : Int) (kept : List (Nat × List Int)) (place : Nat) (left : List Int) : List (Nat × List Int) :=
  (place, left) :: kept.map fun b => (b.1, less p b.2 (b.2.getD place 0) left)
theorem take_same {p : Int} {n : Nat} {kept : List (Nat × List Int)} {R : List (List Int)} {r left : List Int} (sm : Same p n R (kept.map (·.2))) (h : Fell p n kept r left (kept.map (·.1)))
    (hz : ∀ i, i < n → left.getD i 0 = 0) : Same p n (R ++ [r]) (kept.map (·.2)) := by
  refine ⟨fun x hx => ?_, fun x hx => (sm.2 x hx).mono fun y hy => List.mem_append_left _ hy⟩
  rcases List.mem_append.mp hx with hx | hx
  · exact sm.1 x hx
  · rw [List.mem_singleton.mp hx]
    refine h.made.congr fun i hi => ?_
    have q : fn r i - (r.getD i 0 - left.getD i 0) = left.getD i 0 := by unfold fn; omega
    rw [q, hz i hi]; exact Int.dvd_zero p
theorem take_new {p : Int} {n : Nat} {kept : List (Nat × List Int)} {R : List (List Int)} {r left : List Int} {place : Nat} {t : Int} (hp : 2 ≤ p) (rf : RF p n kept) (sm : Same p n R (kept.map (·.2))) (hr : IsRow p n r)
    (h : Fell p n kept r left (kept.map (·.1))) (hpl : place < n) (hnz : left.getD place 0 ≠ 0) (ht : t * left.getD place 0 % p = 1) :
    RF p n (takenRows p kept place (times p left t)) ∧ Same p n (R ++ [r]) ((takenRows p kept place (times p left t)).map (·.2)) := by
  have hl := h.isrow
  have hm : IsRow p n (times p left t) := times_row (by omega) hl.1
  have npl : ∀ b, b ∈ kept → b.1 ≠ place := fun b hb e => hnz (by rw [← e]; exact h.zero b.1 (List.mem_map.mpr ⟨b, hb, rfl⟩))
  have one1 : (1 : Int) % p = 1 := Int.emod_eq_of_lt (by decide) (by omega)
  have m1 : (times p left t).getD place 0 = 1 := by rw [times_at hl.1 hpl, Int.mul_comm]; exact ht
  have m0 : ∀ b, b ∈ kept → (times p left t).getD b.1 0 = 0 := fun b hb => by
    rw [times_at hl.1 (rf.lt b hb), h.zero b.1 (List.mem_map.mpr ⟨b, hb, rfl⟩), Int.zero_mul]; rfl
  have keys : ((takenRows p kept place (times p left t)).map (·.1)) = place :: kept.map (·.1) := by
    unfold takenRows
    rw [List.map_cons, List.map_map]; rfl
  have mem : ∀ {c}, c ∈ takenRows p kept place (times p left t) → c = (place, times p left t) ∨ ∃ b, b ∈ kept ∧ c = (b.1, less p b.2 (b.2.getD place 0) (times p left t)) := by
    intro c hc
    rcases List.mem_cons.mp hc with rfl | hc
    · exact .inl rfl
    · obtain ⟨b, hb, rfl⟩ := List.mem_map.mp hc
      exact .inr ⟨b, hb, rfl⟩
  refine ⟨⟨fun c hc => ?_, fun c hc => ?_, fun c hc => ?_, fun c hc d hd ne => ?_, ?_⟩, fun x hx => ?_, fun x hx => ?_⟩
  · rcases mem hc with rfl | ⟨b, hb, rfl⟩
    · exact hpl
    · exact rf.lt b hb
  · rcases mem hc with rfl | ⟨b, hb, rfl⟩
    · exact hm
    · exact less_row (by omega) (rf.row b hb).1 hm.1
  · rcases mem hc with rfl | ⟨b, hb, rfl⟩
    · exact m1
    · show (less p b.2 (b.2.getD place 0) (times p left t)).getD b.1 0 = 1
      rw [less_at (rf.row b hb).1 hm.1 (rf.lt b hb), m0 b hb, rf.one b hb, Int.mul_zero, Int.sub_zero]; exact one1
  · rcases mem hc with rfl | ⟨b, hb, rfl⟩
    · rcases mem hd with rfl | ⟨e, he, rfl⟩
      · exact absurd rfl ne
      · exact m0 e he
    · show (less p b.2 (b.2.getD place 0) (times p left t)).getD d.1 0 = 0
      rcases mem hd with rfl | ⟨e, he, rfl⟩
      · show (less p b.2 (b.2.getD place 0) (times p left t)).getD place 0 = 0
        rw [less_at (rf.row b hb).1 hm.1 hpl, m1, Int.mul_one, Int.sub_self]; rfl
      · show (less p b.2 (b.2.getD place 0) (times p left t)).getD e.1 0 = 0
        rw [less_at (rf.row b hb).1 hm.1 (rf.lt e he), m0 e he, rf.zero b hb e he ne, Int.mul_zero, Int.sub_self]; rfl
  · rw [keys, List.nodup_cons]
    refine ⟨fun z => ?_, rf.nd⟩
    obtain ⟨b, hb, e⟩ := List.mem_map.mp z
    exact npl b hb e
  · -- R and r are made of the new rows
    have newm : Sp p n ((takenRows p kept place (times p left t)).map (·.2)) (fn (times p left t)) := .mem (List.mem_map.mpr ⟨(place, times p left t), List.mem_cons_self .., rfl⟩)
    have oldm : ∀ y, y ∈ kept.map (·.2) → Sp p n ((takenRows p kept place (times p left t)).map (·.2)) (fn y) := fun y hy => by
      obtain ⟨b, hb, rfl⟩ := List.mem_map.mp hy
      have k1 : Sp p n ((takenRows p kept place (times p left t)).map (·.2)) (fn (less p b.2 (b.2.getD place 0) (times p left t))) :=
        .mem (List.mem_map.mpr ⟨(b.1, less p b.2 (b.2.getD place 0) (times p left t)), List.mem_cons_of_mem _ (List.mem_map.mpr ⟨b, hb, rfl⟩), rfl⟩)
      refine k1.lin 1 (b.2.getD place 0) newm fun i hi => ?_
      have a := less_dvd (p := p) (t := b.2.getD place 0) (rf.row b hb).1 hm.1 hi
      have q : fn b.2 i - (1 * fn (less p b.2 (b.2.getD place 0) (times p left t)) i + b.2.getD place 0 * fn (times p left t) i) = -((less p b.2 (b.2.getD place 0) (times p left t)).getD i 0 - (b.2.getD i 0 - b.2.getD place 0 * (times p left t).getD i 0)) := by
        unfold fn; omega
      rw [q]; exact Int.dvd_neg.mpr a
    rcases List.mem_append.mp hx with hx | hx
    · exact (sm.1 x hx).trans oldm
    · rw [List.mem_singleton.mp hx]
      -- r = (r - left) + left, left = left[place] * (t * left)
      have k1 := h.made.trans oldm
      refine k1.lin 1 (left.getD place 0) newm fun i hi => ?_
      have a : p ∣ ((times p left t).getD i 0 - left.getD i 0 * t) := by rw [times_at hl.1 hi]; exact emod_dvd _ _
      have b : p ∣ (t * left.getD place 0 - 1) := dvd_of_emod ht
      have q : fn r i - (1 * (r.getD i 0 - left.getD i 0) + left.getD place 0 * fn (times p left t) i) = (- left.getD place 0) * ((times p left t).getD i 0 - left.getD i 0 * t) + (- left.getD i 0) * (t * left.getD place 0 - 1) := by
        unfold fn
        rw [Int.mul_sub (-left.getD place 0), Int.mul_sub (-left.getD i 0), Int.mul_one]
        have e1 : -left.getD place 0 * (left.getD i 0 * t) = -(left.getD i 0 * (t * left.getD place 0)) := by
          rw [Int.neg_mul, Int.mul_comm (left.getD place 0), Int.mul_assoc]
        have e2 : -left.getD i 0 * (t * left.getD place 0) = -(left.getD i 0 * (t * left.getD place 0)) := by rw [Int.neg_mul]
        have e3 : -left.getD place 0 * (times p left t).getD i 0 = -(left.getD place 0 * (times p left t).getD i 0) := by rw [Int.neg_mul]
        rw [e1, e2, e3]
        omega
      rw [q]; exact dvd_lin _ _ a b
  · -- the new rows are made of R and r
    have hr' : Sp p n (R ++ [r]) (fn r) := .mem (List.mem_append_right _ (List.mem_singleton.mpr rfl))
    have old : ∀ y, y ∈ kept.map (·.2) → Sp p n (R ++ [r]) (fn y) := fun y hy => (sm.2 y hy).mono fun z hz => List.mem_append_left _ hz
    have lf : Sp p n (R ++ [r]) (fn left) := (h.made.trans old).lin (-1) 1 hr' fun i _ => by
      have q : fn left i - (-1 * (r.getD i 0 - left.getD i 0) + 1 * fn r i) = 0 := by unfold fn; omega
      rw [q]; exact Int.dvd_zero p
    have nw : Sp p n (R ++ [r]) (fn (times p left t)) := (lf.smul t).congr fun i hi => by
      have a : p ∣ ((times p left t).getD i 0 - left.getD i 0 * t) := by rw [times_at hl.1 hi]; exact emod_dvd _ _
      have q : fn (times p left t) i - t * fn left i = (times p left t).getD i 0 - left.getD i 0 * t := by unfold fn; rw [Int.mul_comm t]
      rw [q]; exact a
    obtain ⟨c, hc, rfl⟩ := List.mem_map.mp hx
    rcases mem hc with rfl | ⟨b, hb, rfl⟩
    · exact nw
    · refine (old b.2 (List.mem_map.mpr ⟨b, hb, rfl⟩)).lin 1 (- b.2.getD place 0) nw fun i hi => ?_
      have a := less_dvd (p := p) (t := b.2.getD place 0) (rf.row b hb).1 hm.1 hi
      have q : fn (less p b.2 (b.2.getD place 0) (times p left t)) i - (1 * fn b.2 i + -b.2.getD place 0 * fn (times p left t) i) = (less p b.2 (b.2.getD place 0) (times p left t)).getD i 0 - (b.2.getD i 0 - b.2.getD place 0 * (times p left t).getD i 0) := by
        unfold fn; rw [Int.neg_mul]; omega
      rw [q]; exact a
end Mth
end

section
set_option linter.all false
namespace Mth
/-! ### combinations, as itertools gives them -/
def combs {α : Type} : Nat → List α → List (List α)
  | 0, _ => [[]]
  | _ + 1, [] => []
  | r + 1, x :: xs => (combs r xs).map (x :: ·) ++ combs (r + 1) xs

theorem mem_combs {α : Type} : ∀ {r : Nat} {xs a : List α}, a ∈ combs r xs ↔ a.Sublist xs ∧ a.length = r
  | 0, xs, a => by
    unfold combs
    rw [List.mem_singleton]
    constructor
    · rintro rfl
      exact ⟨List.nil_sublist _, rfl⟩
    · rintro ⟨_, h⟩
      exact List.eq_nil_of_length_eq_zero h
  | r + 1, [], a => by
    unfold combs
    constructor
    · intro h; cases h
    · rintro ⟨h1, h2⟩
      rw [List.sublist_nil] at h1
      rw [h1] at h2
      cases h2
  | r + 1, x :: xs, a => by
    unfold combs
    rw [List.mem_append, List.mem_map]
    constructor
    · rintro (⟨b, hb, rfl⟩ | h)
      · obtain ⟨h1, h2⟩ := mem_combs.mp hb
        exact ⟨h1.cons_cons x, by rw [List.length_cons, h2]⟩
      · obtain ⟨h1, h2⟩ := mem_combs.mp h
        exact ⟨h1.cons x, h2⟩
    · rintro ⟨h1, h2⟩
      cases h1 with
      | cons _ h => exact .inr (mem_combs.mpr ⟨h, h2⟩)
      | cons_cons _ h => exact .inl ⟨_, mem_combs.mpr ⟨h, by rw [List.length_cons] at h2; omega⟩, rfl⟩
theorem combs_map {α β : Type} (f : α → β) : ∀ (r : Nat) (xs : List α), combs r (xs.map f) = (combs r xs).map (List.map f)
  | 0, xs => by unfold combs; rfl
  | r + 1, [] => rfl
  | r + 1, x :: xs => by
    show (combs r (xs.map f)).map (f x :: ·) ++ combs (r + 1) (xs.map f) = ((combs r xs).map (x :: ·) ++ combs (r + 1) xs).map (List.map f)
    rw [combs_map f r xs, combs_map f (r + 1) xs, List.map_append, List.map_map, List.map_map]
    rfl
theorem combs_nil {α : Type} {r : Nat} {xs : List α} (h : xs.length < r) : combs r xs = [] := by
  cases e : combs r xs with
  | nil => rfl
  | cons a l =>
    have q := mem_combs.mp (show a ∈ combs r xs by rw [e]; exact List.mem_cons_self ..)
    have := q.1.length_le
    omega

/-! ### the next places -/
def nextC (n : Nat) (ix : List Nat) : Option (List Nat) :=
  match (List.range ix.length).reverse.find? fun i => ix.getD i 0 != i + n - ix.length with
  | none => none
  | some i => some (ix.take i ++ (List.range (ix.length - i)).map (ix.getD i 0 + 1 + ·))
theorem find_cons (n x : Nat) (t : List Nat) : ((List.range (x :: t).length).reverse.find? fun i => (x :: t).getD i 0 != i + n - (x :: t).length) =
    match (List.range t.length).reverse.find? fun i => t.getD i 0 != i + n - t.length with
    | some i => some (i + 1)
    | none => if x = n - (t.length + 1) then none else some 0 := by
  rw [List.length_cons, List.range_succ_eq_map, List.reverse_cons, List.find?_append, ← List.map_reverse, List.find?_map]
  have e : ((fun i => (x :: t).getD i 0 != i + n - (t.length + 1)) ∘ Nat.succ) = fun i => t.getD i 0 != i + n - t.length := by
    funext i
    show ((x :: t).getD (i + 1) 0 != i + 1 + n - (t.length + 1)) = _
    rw [List.getD_cons_succ, show i + 1 + n - (t.length + 1) = i + n - t.length by omega]
  rw [e]
  cases (List.range t.length).reverse.find? fun i => t.getD i 0 != i + n - t.length with
  | some i => rfl
  | none =>
    rw [Option.map_none, Option.none_or]
    rw [List.find?_cons, List.find?_nil, List.getD_cons_zero, Nat.zero_add]
    by_cases h : x = n - (t.length + 1)
    · simp [h]
    · have hb : (x != n - (t.length + 1)) = true := by simpa using h
      simp only [hb, if_neg h]
theorem nextC_some {n x : Nat} {t u : List Nat} (h : nextC n t = some u) : nextC n (x :: t) = some (x :: u) := by
  unfold nextC at h ⊢
  rw [find_cons]
  cases e : (List.range t.length).reverse.find? fun i => t.getD i 0 != i + n - t.length with
  | none => rw [e] at h; cases h
  | some i =>
    rw [e] at h
    have h' := Option.some.inj h
    show some _ = some _
    rw [← h', List.getD_cons_succ, List.take_succ_cons, List.length_cons, Nat.add_sub_add_right, List.cons_append]
theorem nextC_none {n x : Nat} {t : List Nat} (h : nextC n t = none) : nextC n (x :: t) = if x = n - (t.length + 1) then none else some (List.range' (x + 1) (t.length + 1)) := by
  unfold nextC at h ⊢
  rw [find_cons]
  cases e : (List.range t.length).reverse.find? fun i => t.getD i 0 != i + n - t.length with
  | some i => rw [e] at h; cases h
  | none =>
    by_cases q : x = n - (t.length + 1)
    · simp only [if_pos q]
    · simp only [if_neg q]
      rw [List.take_zero, List.nil_append, List.getD_cons_zero, List.length_cons, Nat.sub_zero, List.range'_eq_map_range]
/-- each goes to the next one, the last one to e -/
def Seg (f : List Nat → Option (List Nat)) : List (List Nat) → Option (List Nat) → Prop
  | [], _ => True
  | a :: l, e => f a = l.head?.or e ∧ Seg f l e
theorem Seg.app {f : List Nat → Option (List Nat)} {e : Option (List Nat)} {B : List (List Nat)} : ∀ {A : List (List Nat)}, Seg f A (B.head?.or e) → Seg f B e → Seg f (A ++ B) e
  | [], _, h => h
  | a :: A, h, k => by
    refine ⟨?_, Seg.app h.2 k⟩
    rw [h.1]
    cases A <;> rfl
theorem Seg.map {f : List Nat → Option (List Nat)} {g : List Nat → List Nat} {e : Option (List Nat)} : ∀ {A : List (List Nat)}, Seg f A none → (∀ a, a ∈ A → ∀ b, f a = some b → f (g a) = some (g b)) → (∀ a, a ∈ A → f a = none → f (g a) = e) → Seg f (A.map g) e
  | [], _, _, _ => trivial
  | a :: A, h, k1, k2 => by
    refine ⟨?_, Seg.map h.2 (fun x hx => k1 x (List.mem_cons_of_mem _ hx)) fun x hx => k2 x (List.mem_cons_of_mem _ hx)⟩
    cases A with
    | nil => exact k2 a (List.mem_cons_self ..) h.1
    | cons b A => exact k1 a (List.mem_cons_self ..) b h.1
theorem Seg.at {f : List Nat → Option (List Nat)} : ∀ {L : List (List Nat)} {i : Nat} {a : List Nat}, Seg f L none → L[i]? = some a → f a = L[i + 1]?
  | [], i, a, _, h => by simp at h
  | b :: L, 0, a, h, e => by
    have e' : b = a := Option.some.inj e
    rw [← e', h.1]
    cases L <;> rfl
  | b :: L, i + 1, a, h, e => Seg.at (L := L) h.2 (by simpa using e)
theorem combs_seg (n : Nat) : ∀ (m r lo : Nat), lo + m = n → Seg (nextC n) (combs r (List.range' lo m)) none ∧ (r ≤ m → (combs r (List.range' lo m)).head? = some (List.range' lo r))
  | m, 0, lo, _ => by
    unfold combs
    exact ⟨⟨rfl, trivial⟩, fun _ => rfl⟩
  | 0, r + 1, lo, _ => ⟨trivial, fun h => by omega⟩
  | m + 1, r + 1, lo, h => by
    obtain ⟨a1, a2⟩ := combs_seg n m r (lo + 1) (by omega)
    obtain ⟨b1, b2⟩ := combs_seg n m (r + 1) (lo + 1) (by omega)
    rw [List.range'_succ]
    unfold combs
    refine ⟨(Seg.map a1 (fun a _ b e => nextC_some e) fun a ha e => ?_).app b1, fun hr => ?_⟩
    · obtain ⟨q1, q2⟩ := mem_combs.mp ha
      have q3 := q1.length_le
      rw [q2, List.length_range'] at q3
      rw [nextC_none e, q2]
      by_cases hm : r + 1 ≤ m
      · rw [b2 hm, if_neg (by omega)]; rfl
      · rw [combs_nil (by rw [List.length_range']; omega), if_pos (by omega)]; rfl
    · rw [List.head?_append, List.head?_map, a2 (by omega)]
      rfl
/-- the places of n items -/
def combIx (n r : Nat) : List (List Nat) := combs r (List.range n)
theorem combIx_next {n r i : Nat} {a : List Nat} (h : (combIx n r)[i]? = some a) : nextC n a = (combIx n r)[i + 1]? := by
  unfold combIx at h ⊢
  rw [List.range_eq_range'] at h ⊢
  exact (combs_seg n n r 0 (by omega)).1.at h
theorem combIx_head {n r : Nat} (h : r ≤ n) : (combIx n r)[0]? = some (List.range r) := by
  unfold combIx
  have := (combs_seg n n r 0 (by omega)).2 h
  rw [List.range_eq_range', List.range_eq_range', ← List.head?_eq_getElem?]
  exact this
theorem combIx_nil {n r : Nat} (h : n < r) : combIx n r = [] := combs_nil (by rw [List.length_range]; exact h)
def pick {α : Type} (xs : List α) (d : α) (ix : List Nat) : List α := ix.map fun i => xs.getD i d
theorem pick_combs {α : Type} (d : α) (xs : List α) (r : Nat) : (combIx xs.length r).map (pick xs d) = combs r xs := by
  have e : xs = (List.range xs.length).map fun i => xs.getD i d := by
    apply List.ext_getElem
    · simp
    · intro i h1 h2
      simp at h2
      simp [h2]
  conv => rhs; rw [e]
  rw [combs_map]
  rfl
theorem pick_length {α : Type} (xs : List α) (d : α) (ix : List Nat) : (pick xs d ix).length = ix.length := by unfold pick; rw [List.length_map]
end Mth
end

section
namespace Mth
/-! ### harms, lots: what the program computes -/
def left (l s : List Nat) : List Nat := l.filter fun a => !decide (a ∈ s)
def hitB (found : List (List Nat)) (lost : List Nat) : Bool := found.any fun h => h.all fun a => decide (a ∈ lost)
def scan (F : List Nat → Bool) (lot : List Nat) (found : List (List Nat)) (lost : List Nat) : List (List Nat) := if hitB found lost then found else if F (left lot lost) then found else found ++ [lost]
def upto {α : Type} (i : Nat) (l : List α) : List (List α) := (List.range i).flatMap fun r => combs r l
def harmsL (F : List Nat → Bool) (lot : List Nat) : List (List Nat) := (upto (lot.length + 1) lot).foldl (scan F lot) []
def meets (l : List Nat) (cs : List (List Nat)) (k : Int) : Bool := cs.all fun c => decide (k < ((c.filter fun a => decide (a ∈ l)).length : Int))
theorem upto_succ {α : Type} (i : Nat) (l : List α) : upto (i + 1) l = upto i l ++ combs i l := by
  unfold upto
  rw [List.range_succ, List.flatMap_append, List.flatMap_cons, List.flatMap_nil, List.append_nil]
theorem combs_len {α : Type} : ∀ (r : Nat) (l : List α), (combs r l).length ≤ 2 ^ l.length
  | 0, l => by
    unfold combs
    exact Nat.one_le_two_pow
  | r + 1, [] => by
    unfold combs
    exact Nat.zero_le _
  | r + 1, x :: xs => by
    unfold combs
    rw [List.length_append, List.length_map, List.length_cons, Nat.pow_succ]
    have h1 := combs_len r xs
    have h2 := combs_len (r + 1) xs
    omega
theorem upto_len {α : Type} (i : Nat) (l : List α) : (upto i l).length ≤ i * 2 ^ l.length := by
  induction i with
  | zero => exact Nat.le_of_eq (by unfold upto; simp)
  | succ i ih =>
    rw [upto_succ, List.length_append, Nat.succ_mul]
    have := combs_len i l
    omega
theorem scan_len (F : List Nat → Bool) (lot : List Nat) : ∀ (cs : List (List Nat)) (found : List (List Nat)), (cs.foldl (scan F lot) found).length ≤ found.length + cs.length
  | [], found => Nat.le_refl _
  | c :: cs, found => by
    have h := scan_len F lot cs (scan F lot found c)
    have h2 : (scan F lot found c).length ≤ found.length + 1 := by
      unfold scan
      split
      · omega
      · split
        · omega
        · simp
    rw [List.foldl_cons, List.length_cons]
    omega
theorem mem_fold (F : List Nat → Bool) (lot : List Nat) : ∀ {cs found : List (List Nat)} {h : List Nat}, h ∈ cs.foldl (scan F lot) found → h ∈ found ∨ h ∈ cs
  | [], found, h, m => .inl m
  | c :: cs, found, h, m => by
    rcases mem_fold F lot (cs := cs) (found := scan F lot found c) m with m | m
    · unfold scan at m
      split at m
      · exact .inl m
      · split at m
        · exact .inl m
        · rcases List.mem_append.mp m with m | m
          · exact .inl m
          · exact .inr (by rw [List.mem_singleton.mp m]; exact List.mem_cons_self)
    · exact .inr (List.mem_cons_of_mem _ m)
theorem mem_upto {α : Type} {i : Nat} {l h : List α} : h ∈ upto i l ↔ h.Sublist l ∧ h.length < i := by
  unfold upto
  rw [List.mem_flatMap]
  constructor
  · rintro ⟨r, h1, h2⟩
    obtain ⟨h3, h4⟩ := mem_combs.mp h2
    exact ⟨h3, by rw [h4]; exact List.mem_range.mp h1⟩
  · rintro ⟨h1, h2⟩
    exact ⟨h.length, List.mem_range.mpr h2, mem_combs.mpr ⟨h1, rfl⟩⟩
end Mth
end

section
namespace Mth
/-! ### B: rows one behind another, each 0 at the places of those ahead of it -/
def comb2 (p : Int) (row : List Int) (f s : Int) (base : List Int) : List Int := (List.range row.length).map fun k => (row.getD k 0 * f - s * base.getD k 0) % p
theorem comb2_row {p : Int} {n : Nat} {r b : List Int} {f s : Int} (hp : 0 < p) (hr : r.length = n) : IsRow p n (comb2 p r f s b) := by
  refine ⟨by unfold comb2; rw [List.length_map, List.length_range, hr], fun x hx => ?_⟩
  unfold comb2 at hx
  obtain ⟨k, _, rfl⟩ := List.mem_map.mp hx
  exact ⟨Int.emod_nonneg _ (by omega), Int.emod_lt_of_pos _ hp⟩
theorem comb2_at {p : Int} {n : Nat} {r b : List Int} {f s : Int} (hr : r.length = n) {i : Nat} (hi : i < n) : (comb2 p r f s b).getD i 0 = (r.getD i 0 * f - s * b.getD i 0) % p := by
  have h1 : i < r.length := by omega
  unfold comb2
  simp [h1]
structure Red (p : Int) (n : Nat) (bs : List (Nat × List Int)) (row0 row : List Int) (j : Nat) : Prop where
  isrow : IsRow p n row
  made : ∃ u d : Int, p ∣ (d * u - 1) ∧ Sp p n (bs.map (·.2)) (fun i => row.getD i 0 - u * row0.getD i 0)
  zero : ∀ c, c ∈ bs.take j → p ∣ row.getD c.1 0
section
variable {p : Int} {n : Nat} {bs : List (Nat × List Int)} {row0 row : List Int} {j : Nat}
theorem Red.start (h : IsRow p n row) : Red p n bs row row 0 := ⟨h, ⟨1, 1, by simp, .zero _ fun i _ => by
  show p ∣ row.getD i 0 - 1 * row.getD i 0
  rw [Int.one_mul, Int.sub_self]
  exact Int.dvd_zero p⟩, fun c hc => by simp at hc⟩
theorem take_succ' {α : Type} {l : List α} {i : Nat} {a : α} (h : l[i]? = some a) : l.take (i + 1) = l.take i ++ [a] := by
  rw [List.take_add_one, h]
  rfl
theorem Red.skip {b : Nat × List Int} (h : Red p n bs row0 row j) (hb : bs[j]? = some b) (hz : row.getD b.1 0 = 0) : Red p n bs row0 row (j + 1) := by
  refine ⟨h.isrow, h.made, fun c hc => ?_⟩
  rw [take_succ' hb] at hc
  rcases List.mem_append.mp hc with hc | hc
  · exact h.zero c hc
  · rw [List.mem_singleton.mp hc, hz]
    exact Int.dvd_zero p
theorem stair_at : ∀ {bs : List (Nat × List Int)} {j : Nat} {b : Nat × List Int}, Stair p n bs → bs[j]? = some b → b.1 < n ∧ (∃ d, p ∣ (d * b.2.getD b.1 0 - 1)) ∧ ∀ c, c ∈ bs.take j → p ∣ b.2.getD c.1 0
  | [], _, _, _, h => by simp at h
  | a :: r, 0, b, s, h => by
    have e : a = b := by simpa using h
    subst e
    exact ⟨s.1, s.2.1, fun c hc => by simp at hc⟩
  | a :: r, j + 1, b, s, h => by
    have h2 : r[j]? = some b := by simpa using h
    obtain ⟨h3, h4, h5⟩ := stair_at s.2.2.2 h2
    refine ⟨h3, h4, fun c hc => ?_⟩
    rw [List.take_succ_cons] at hc
    rcases List.mem_cons.mp hc with rfl | hc
    · exact (s.2.2.1 b (List.mem_of_getElem? h2)).2
    · exact h5 c hc
theorem Red.step {b : Nat × List Int} (hp : 2 ≤ p) (st : Stair p n bs) (h : Red p n bs row0 row j) (hb : bs[j]? = some b) : Red p n bs row0 (comb2 p row (b.2.getD b.1 0) (row.getD b.1 0) b.2) (j + 1) := by
  obtain ⟨hlt, ⟨df, hdf⟩, hz⟩ := stair_at st hb
  obtain ⟨u, d, hu, hs⟩ := h.made
  have hr := h.isrow.1
  have hm : b ∈ bs := List.mem_of_getElem? hb
  refine ⟨comb2_row (by omega) hr, ⟨u * b.2.getD b.1 0, d * df, ?_, ?_⟩, fun c hc => ?_⟩
  · have e : d * df * (u * b.2.getD b.1 0) - 1 = (d * u - 1) * (df * b.2.getD b.1 0) + (df * b.2.getD b.1 0 - 1) := by
      rw [Int.sub_mul, Int.one_mul, show d * u * (df * b.2.getD b.1 0) = d * df * (u * b.2.getD b.1 0) by simp only [Int.mul_assoc, Int.mul_left_comm]]
      omega
    rw [e]
    exact Int.dvd_add (Int.dvd_mul_of_dvd_left hu) hdf
  · refine Sp.lin (b.2.getD b.1 0) (-(row.getD b.1 0)) hs (Sp.mem (List.mem_map.mpr ⟨b, hm, rfl⟩)) fun i hi => ?_
    rw [comb2_at hr hi]
    have hd := emod_dvd (row.getD i 0 * b.2.getD b.1 0 - row.getD b.1 0 * b.2.getD i 0) p
    show p ∣ ((row.getD i 0 * b.2.getD b.1 0 - row.getD b.1 0 * b.2.getD i 0) % p - u * b.2.getD b.1 0 * row0.getD i 0) - (b.2.getD b.1 0 * (row.getD i 0 - u * row0.getD i 0) + -(row.getD b.1 0) * b.2.getD i 0)
    have e : ((row.getD i 0 * b.2.getD b.1 0 - row.getD b.1 0 * b.2.getD i 0) % p - u * b.2.getD b.1 0 * row0.getD i 0) - (b.2.getD b.1 0 * (row.getD i 0 - u * row0.getD i 0) + -(row.getD b.1 0) * b.2.getD i 0) = (row.getD i 0 * b.2.getD b.1 0 - row.getD b.1 0 * b.2.getD i 0) % p - (row.getD i 0 * b.2.getD b.1 0 - row.getD b.1 0 * b.2.getD i 0) := by
      rw [Int.mul_sub, Int.neg_mul, Int.mul_comm (b.2.getD b.1 0) (row.getD i 0), show b.2.getD b.1 0 * (u * row0.getD i 0) = u * b.2.getD b.1 0 * row0.getD i 0 by rw [Int.mul_left_comm, Int.mul_assoc]]
      omega
    rw [e]
    exact hd
  · rw [take_succ' hb] at hc
    rcases List.mem_append.mp hc with hc | hc
    · have hcb : c ∈ bs := List.mem_of_mem_take hc
      have hcn : c.1 < n := st.lt c hcb
      rw [comb2_at hr hcn]
      have hd := emod_dvd (row.getD c.1 0 * b.2.getD b.1 0 - row.getD b.1 0 * b.2.getD c.1 0) p
      have h2 : p ∣ row.getD c.1 0 * b.2.getD b.1 0 - row.getD b.1 0 * b.2.getD c.1 0 := Int.dvd_sub (Int.dvd_mul_of_dvd_left (h.zero c hc)) (Int.dvd_mul_of_dvd_right (hz c hc))
      have h3 := Int.dvd_add hd h2
      rw [Int.sub_add_cancel] at h3
      exact h3
    · rw [List.mem_singleton.mp hc, comb2_at hr hlt, Int.mul_comm (row.getD b.1 0), Int.mul_comm (b.2.getD b.1 0), Int.sub_self]
      exact Int.dvd_zero p
theorem rank_same {R : List (List Int)} (sm : Same p n R (bs.map (·.2))) (h : Red p n bs row0 row bs.length) (hz : ∀ i, i < n → row.getD i 0 = 0) : Same p n (R ++ [row0]) (bs.map (·.2)) := by
  refine ⟨fun x hx => ?_, fun x hx => (sm.2 x hx).mono fun y hy => List.mem_append_left _ hy⟩
  rcases List.mem_append.mp hx with hx | hx
  · exact sm.1 x hx
  · rw [List.mem_singleton.mp hx]
    obtain ⟨u, d, hu, hs⟩ := h.made
    refine Sp.of_unit (u := u) (d := d) hu ?_
    refine (hs.smul (-1)).congr fun i hi => ?_
    have e : u * fn row0 i - -1 * (row.getD i 0 - u * row0.getD i 0) = 0 := by
      rw [hz i hi]
      show u * row0.getD i 0 - -1 * (0 - u * row0.getD i 0) = 0
      omega
    rw [e]
    exact Int.dvd_zero p
theorem rank_new {R : List (List Int)} {lead : Nat} (hi : Inv p) (st : Stair p n bs) (sm : Same p n R (bs.map (·.2))) (h : Red p n bs row0 row bs.length) (hl : lead < n) (hnz : row.getD lead 0 ≠ 0) :
    Stair p n (bs ++ [(lead, row)]) ∧ Same p n (R ++ [row0]) ((bs ++ [(lead, row)]).map (·.2)) := by
  have hz : ∀ c, c ∈ bs → p ∣ row.getD c.1 0 := fun c hc => h.zero c (by rw [List.take_length]; exact hc)
  have hr := h.isrow
  obtain ⟨g0, g1⟩ := hr.at hl
  have hmem : row ∈ (bs ++ [(lead, row)]).map (·.2) := List.mem_map.mpr ⟨(lead, row), List.mem_append_right _ List.mem_cons_self, rfl⟩
  have hsub : ∀ r, r ∈ bs.map (·.2) → r ∈ (bs ++ [(lead, row)]).map (·.2) := fun r hr => by
    rw [List.map_append]
    exact List.mem_append_left _ hr
  obtain ⟨u, d, hu, hs⟩ := h.made
  refine ⟨st.snoc hl (hi.unit g0 g1 hnz) fun c hc => ⟨fun e => ?_, hz c hc⟩, ⟨fun x hx => ?_, fun x hx => ?_⟩⟩
  · have q := row_zero hr (st.lt c hc) (hz c hc)
    rw [show c.1 = lead from e] at q
    exact hnz q
  · rcases List.mem_append.mp hx with hx | hx
    · exact (sm.1 x hx).mono hsub
    · rw [List.mem_singleton.mp hx]
      refine Sp.of_unit (u := u) (d := d) hu ?_
      refine Sp.lin 1 (-1) (Sp.mem hmem) (hs.mono hsub) fun i _ => ?_
      have e : u * fn row0 i - (1 * fn row i + -1 * (row.getD i 0 - u * row0.getD i 0)) = 0 := by
        show u * row0.getD i 0 - (1 * row.getD i 0 + -1 * (row.getD i 0 - u * row0.getD i 0)) = 0
        omega
      rw [e]
      exact Int.dvd_zero p
  · rw [List.map_append] at hx
    rcases List.mem_append.mp hx with hx | hx
    · exact (sm.2 x hx).mono fun y hy => List.mem_append_left _ hy
    · have ex : x = row := by simpa using hx
      rw [ex]
      have hs2 : Sp p n (R ++ [row0]) (fun i => row.getD i 0 - u * row0.getD i 0) := hs.trans fun r hr => (sm.2 r hr).mono fun y hy => List.mem_append_left _ hy
      have h0 : Sp p n (R ++ [row0]) (fn row0) := Sp.mem (List.mem_append_right _ List.mem_cons_self)
      refine Sp.lin 1 u hs2 h0 fun i _ => ?_
      have e : fn row i - (1 * (row.getD i 0 - u * row0.getD i 0) + u * fn row0 i) = 0 := by
        show row.getD i 0 - (1 * (row.getD i 0 - u * row0.getD i 0) + u * row0.getD i 0) = 0
        omega
      rw [e]
      exact Int.dvd_zero p
end
end Mth
end

section
set_option Elab.async false
set_option linter.all false
/-! all lots within a lot, as the law makes them -/
namespace Mth
def subsF : List Nat → List (List Nat) := fun l => l.foldl (fun f p => f ++ f.map (· ++ [p])) [[]]
theorem subsF_snoc (l : List Nat) (p : Nat) : subsF (l ++ [p]) = subsF l ++ (subsF l).map (· ++ [p]) := by
  unfold subsF
  rw [List.foldl_append] <;> rfl
theorem snoc_rec {P : List Nat → Prop} (h0 : P []) (h1 : ∀ l p, P l → P (l ++ [p])) : ∀ l, P l := by
  have key : ∀ (n : Nat) (l : List Nat), l.length = n → P l := by
    intro n
    induction n with
    | zero =>
      intro l h
      rw [List.length_eq_zero_iff.mp h]
      exact h0
    | succ n ih =>
      intro l h
      have hne : l ≠ [] := fun z => by
        rw [z] at h
        cases h
      rw [← List.dropLast_concat_getLast hne]
      refine h1 _ _ (ih _ ?_)
      rw [List.length_dropLast, h]
      rfl
  exact fun l => key _ l rfl
theorem subsF_len : ∀ l, (subsF l).length = 2 ^ l.length := by
  refine snoc_rec rfl fun l p ih => ?_
  rw [subsF_snoc, List.length_append, List.length_map, ih, List.length_append]
  show 2 ^ l.length + 2 ^ l.length = 2 ^ (l.length + 1)
  rw [Nat.pow_succ]
  omega
theorem sub_snoc {s l : List Nat} {p : Nat} (h : s.Sublist (l ++ [p])) : s.Sublist l ∨ ∃ t, s = t ++ [p] ∧ t.Sublist l := by
  obtain ⟨a, b, e, h1, h2⟩ := List.sublist_append_iff.mp h
  cases b with
  | nil =>
    rw [List.append_nil] at e
    rw [e]
    exact .inl h1
  | cons x r =>
    have hl := h2.length_le
    cases r with
    | cons y r => simp at hl
    | nil =>
      have : x = p := by
        have := h2.subset (List.mem_singleton.mpr rfl : x ∈ [x])
        exact List.mem_singleton.mp this
      rw [this] at e
      exact .inr ⟨a, e, h1⟩
theorem mem_subsF : ∀ l s, s ∈ subsF l ↔ s.Sublist l := by
  refine snoc_rec (fun s => ?_) fun l p ih s => ?_
  · show s ∈ [[]] ↔ _
    rw [List.mem_singleton]
    exact ⟨fun e => by rw [e]; exact List.Sublist.refl _, fun h => List.sublist_nil.mp h⟩
  · rw [subsF_snoc, List.mem_append, List.mem_map, ih]
    refine ⟨fun h => ?_, fun h => ?_⟩
    · rcases h with h | ⟨t, ht, rfl⟩
      · exact h.trans (List.sublist_append_left _ _)
      · exact List.Sublist.append ((ih t).mp ht) (List.Sublist.refl _)
    · rcases sub_snoc h with h | ⟨t, rfl, ht⟩
      · exact .inl h
      · exact .inr ⟨t, (ih t).mpr ht, rfl⟩
theorem subsF_nodup : ∀ l : List Nat, l.Nodup → (subsF l).Nodup := by
  refine snoc_rec (fun _ => by simp [subsF]) fun l p ih h => ?_
  rw [List.nodup_append] at h
  obtain ⟨h1, _, h2⟩ := h
  rw [subsF_snoc, List.nodup_append]
  refine ⟨ih h1, ?_, fun a ha b hb e => ?_⟩
  · unfold List.Nodup
    rw [List.pairwise_map]
    exact (ih h1).imp fun {a b} hne e => hne (List.append_cancel_right e)
  · obtain ⟨t, _, rfl⟩ := List.mem_map.mp hb
    have hp : p ∈ a := by
      rw [e]
      simp
    exact h2 p (((mem_subsF l a).mp ha).subset hp) p (List.mem_singleton.mpr rfl) rfl
end Mth
end

section
set_option Elab.async false
set_option linter.all false
/-! the law's safe lots, turn by turn -/
namespace Mth
def safeT (F : List Nat → Bool) : Nat → List Nat → Bool
  | 0, s => F s
  | t + 1, s => safeT F t s && s.all fun p => safeT F t (left s [p])
theorem left_nil (s : List Nat) : left s [] = s := by
  unfold left
  exact List.filter_eq_self.mpr fun a _ => by simp
theorem left_off {s u : List Nat} (h : ∀ p, p ∈ u → p ∉ s) : left s u = s := by
  unfold left
  refine List.filter_eq_self.mpr fun a ha => ?_
  have : a ∉ u := fun z => h a z ha
  simp [this]
theorem left_left {s u : List Nat} {p : Nat} (hp : p ∈ u) : left (left s [p]) (u.erase p) = left s u := by
  unfold left
  rw [List.filter_filter]
  refine List.filter_congr fun a _ => ?_
  by_cases h : a = p
  · subst h
    simp [hp]
  · have e : a ∈ u.erase p ↔ a ∈ u := List.mem_erase_of_ne h
    simp [h, e]
theorem safeT_iff (F : List Nat → Bool) : ∀ t s, safeT F t s = true ↔ ∀ u : List Nat, u.length ≤ t → F (left s u) = true
  | 0, s => by
    refine ⟨fun h u hu => ?_, fun h => ?_⟩
    · rw [List.length_eq_zero_iff.mp (Nat.le_zero.mp hu), left_nil]
      exact h
    · have := h [] (Nat.le_refl _)
      rw [left_nil] at this
      exact this
  | t + 1, s => by
    show (safeT F t s && s.all fun p => safeT F t (left s [p])) = true ↔ _
    rw [Bool.and_eq_true, safeT_iff F t s, List.all_eq_true]
    refine ⟨fun ⟨h1, h2⟩ u hu => ?_, fun h => ⟨fun u hu => h u (by omega), fun p hp => (safeT_iff F t _).mpr fun u hu => ?_⟩⟩
    · by_cases hx : ∃ p, p ∈ u ∧ p ∈ s
      · obtain ⟨p, hp, hps⟩ := hx
        have := (safeT_iff F t _).mp (h2 p hps) (u.erase p) (by
          have := List.length_erase_of_mem hp
          omega)
        rw [left_left hp] at this
        exact this
      · have e : left s u = s := left_off fun p hp hs => hx ⟨p, hp, hs⟩
        rw [e]
        have := h1 [] (Nat.zero_le _)
        rw [left_nil] at this
        exact this
    · have := h (p :: u) (by
        show u.length + 1 ≤ t + 1
        omega)
      rw [← left_left (s := s) (List.mem_cons_self : p ∈ p :: u)] at this
      rw [List.erase_cons_head] at this
      exact this
theorem left_sub (s u : List Nat) : (left s u).Sublist s := List.filter_sublist
end Mth
end

section
set_option Elab.async false
set_option linter.all false
/-! harms, safe lots, the order of lots -/
namespace Mth
/-! ### harms -/
section
variable {F : List Nat → Bool} {lot : List Nat}
theorem scan_pre (c : List Nat) : ∀ {found : List (List Nat)}, ∃ t, scan F lot found c = found ++ t := by
  intro found
  unfold scan
  split
  · exact ⟨[], by simp⟩
  · split
    · exact ⟨[], by simp⟩
    · exact ⟨[c], rfl⟩
theorem fold_pre : ∀ (cs found : List (List Nat)), ∃ t, cs.foldl (scan F lot) found = found ++ t
  | [], found => ⟨[], by simp⟩
  | c :: cs, found => by
    obtain ⟨t, h⟩ := scan_pre (F := F) (lot := lot) c (found := found)
    obtain ⟨t2, h2⟩ := fold_pre cs (scan F lot found c)
    refine ⟨t ++ t2, ?_⟩
    rw [List.foldl_cons, h2, h, List.append_assoc]
/-- what is found is harmful -/
theorem fold_bad : ∀ (cs found : List (List Nat)), (∀ h, h ∈ found → F (left lot h) = false) → ∀ h, h ∈ cs.foldl (scan F lot) found → F (left lot h) = false
  | [], found, hf, h, m => hf h m
  | c :: cs, found, hf, h, m => by
    refine fold_bad cs (scan F lot found c) (fun g hg => ?_) h m
    unfold scan at hg
    split at hg
    · exact hf g hg
    · split at hg
      · exact hf g hg
      · rename_i _ hb
        rcases List.mem_append.mp hg with hg | hg
        · exact hf g hg
        · rw [List.mem_singleton.mp hg]
          exact Bool.eq_false_iff.mpr hb
theorem harms_bad {h : List Nat} (m : h ∈ harmsL F lot) : F (left lot h) = false ∧ h.Sublist lot := by
  refine ⟨fold_bad _ [] (fun _ h => nomatch h) h m, ?_⟩
  rcases mem_fold F lot m with m | m
  · cases m
  · exact (mem_upto.mp m).1
/-- each harmful one holds a found one -/
theorem fold_cover : ∀ (cs found : List (List Nat)) (u : List Nat), u ∈ cs → F (left lot u) = false → ∃ h, h ∈ cs.foldl (scan F lot) found ∧ ∀ x, x ∈ h → x ∈ u
  | c :: cs, found, u, hu, hb => by
    rcases List.mem_cons.mp hu with rfl | hu
    · have key : ∃ h, h ∈ scan F lot found u ∧ ∀ x, x ∈ h → x ∈ u := by
        unfold scan
        split
        · rename_i hh
          unfold hitB at hh
          obtain ⟨h, h1, h2⟩ := List.any_eq_true.mp hh
          exact ⟨h, h1, fun x hx => of_decide_eq_true (List.all_eq_true.mp h2 x hx)⟩
        · rw [hb]
          exact ⟨u, by simp, fun _ h => h⟩
      obtain ⟨h, h1, h2⟩ := key
      obtain ⟨t, ht⟩ := fold_pre (F := F) (lot := lot) cs (scan F lot found u)
      refine ⟨h, ?_, h2⟩
      rw [List.foldl_cons, ht]
      exact List.mem_append_left _ h1
    · exact fold_cover cs (scan F lot found c) u hu hb
theorem harms_cover {u : List Nat} (hu : u.Sublist lot) (hb : F (left lot u) = false) : ∃ h, h ∈ harmsL F lot ∧ ∀ x, x ∈ h → x ∈ u :=
  fold_cover _ [] u (mem_upto.mpr ⟨hu, by have := hu.length_le; omega⟩) hb
/-- the first found: the first harmful one -/
theorem fold_first : ∀ (cs : List (List Nat)) (u : List Nat), u ∈ cs → F (left lot u) = false → (cs.Pairwise fun a b => a.length ≤ b.length) → ∃ c t, cs.foldl (scan F lot) [] = c :: t ∧ ∀ u, u ∈ cs → F (left lot u) = false → c.length ≤ u.length
  | c :: cs, u, hu, hb, hp => by
    obtain ⟨h1, h2⟩ := List.pairwise_cons.mp hp
    by_cases hc : F (left lot c) = false
    · have e : scan F lot [] c = [c] := by
        unfold scan hitB
        rw [hc]
        rfl
      obtain ⟨t, ht⟩ := fold_pre (F := F) (lot := lot) cs [c]
      refine ⟨c, t, by rw [List.foldl_cons, e, ht] <;> rfl, fun v hv _ => ?_⟩
      rcases List.mem_cons.mp hv with rfl | hv
      · exact Nat.le_refl _
      · exact h1 v hv
    · have e : scan F lot [] c = [] := by
        unfold scan hitB
        rw [Bool.not_eq_false] at hc
        rw [hc]
        rfl
      rcases List.mem_cons.mp hu with rfl | hu
      · exact absurd hb hc
      · obtain ⟨d, t, h3, h4⟩ := fold_first cs u hu hb h2
        refine ⟨d, t, by rw [List.foldl_cons, e, h3], fun v hv hbv => ?_⟩
        rcases List.mem_cons.mp hv with rfl | hv
        · exact absurd hbv hc
        · exact h4 v hv hbv
theorem upto_len_sorted {α : Type} (l : List α) : ∀ i, (upto i l).Pairwise fun a b => a.length ≤ b.length
  | 0 => by
    unfold upto
    exact List.Pairwise.nil
  | i + 1 => by
    rw [upto_succ, List.pairwise_append]
    refine ⟨upto_len_sorted l i, ?_, fun a ha b hb => ?_⟩
    · refine List.Pairwise.imp_of_mem (R := fun _ _ => True) ?_ (by
        exact List.pairwise_of_forall (fun _ _ => trivial))
      intro a b ha hb _
      rw [(mem_combs.mp ha).2, (mem_combs.mp hb).2]
      exact Nat.le_refl _
    · have h1 := (mem_upto.mp ha).2
      rw [(mem_combs.mp hb).2]
      omega
theorem harms_first (h0 : F [] = false) : ∃ c cs, harmsL F lot = c :: cs ∧ F (left lot c) = false ∧ c.Sublist lot ∧ ∀ u, u.Sublist lot → F (left lot u) = false → c.length ≤ u.length := by
  have hl : left lot lot = [] := by
    unfold left
    exact List.filter_eq_nil_iff.mpr fun a ha => by simp [ha]
  have hm : lot ∈ upto (lot.length + 1) lot := mem_upto.mpr ⟨List.Sublist.refl _, Nat.lt_succ_self _⟩
  obtain ⟨c, t, h1, h2⟩ := fold_first (F := F) (lot := lot) _ lot hm (by rw [hl]; exact h0) (upto_len_sorted lot _)
  have hc : c ∈ harmsL F lot := by
    have e : harmsL F lot = c :: t := h1
    rw [e]
    exact List.mem_cons_self
  obtain ⟨h3, h4⟩ := harms_bad hc
  exact ⟨c, t, h1, h3, h4, fun u hu hb => h2 u (mem_upto.mpr ⟨hu, by have := hu.length_le; omega⟩) hb⟩
end
/-! ### safe lots -/
section
variable {F : List Nat → Bool}
theorem left_filter (s u : List Nat) : left s (s.filter fun a => decide (a ∈ u)) = left s u := by
  unfold left
  refine List.filter_congr fun a ha => ?_
  have : a ∈ s.filter (fun a => decide (a ∈ u)) ↔ a ∈ u := by
    rw [List.mem_filter]
    exact ⟨fun h => of_decide_eq_true h.2, fun h => ⟨ha, decide_eq_true h⟩⟩
  simp [this]
theorem nodup_le : ∀ {a b : List Nat}, a.Nodup → (∀ x, x ∈ a → x ∈ b) → a.length ≤ b.length
  | [], b, _, _ => Nat.zero_le _
  | x :: a, b, hn, h => by
    have hx := h x List.mem_cons_self
    obtain ⟨h1, h2⟩ := List.nodup_cons.mp hn
    have := nodup_le (a := a) (b := b.erase x) h2 (fun y hy => by
      have hy2 := h y (List.mem_cons_of_mem _ hy)
      have hne : y ≠ x := fun z => h1 (by rw [← z]; exact hy)
      exact (List.mem_erase_of_ne hne).mpr hy2)
    have e := List.length_erase_of_mem hx
    have : 0 < b.length := List.length_pos_of_mem hx
    show a.length + 1 ≤ b.length
    omega
theorem filt_le {s u : List Nat} (hn : s.Nodup) : (s.filter fun a => decide (a ∈ u)).length ≤ u.length :=
  nodup_le (hn.sublist List.filter_sublist) fun x hx => of_decide_eq_true (List.mem_filter.mp hx).2
theorem safe_harm {lot c : List Nat} {cs : List (List Nat)} {k n : Nat} (h0 : F [] = false) (hn : lot.Nodup) (hl : lot.length ≤ n) (h : harmsL F lot = c :: cs) : decide ((k : Int) ≤ (c.length : Int) - 1) = safeT F (min k n) lot := by
  obtain ⟨c', cs', h1, h2, h3, h4⟩ := harms_first (F := F) (lot := lot) h0
  rw [h] at h1
  injection h1 with e1 e2
  subst e1
  have hcl := h3.length_le
  by_cases hk : k + 1 ≤ c.length
  · rw [decide_eq_true (by omega)]
    refine ((safeT_iff F _ lot).mpr fun u hu => ?_).symm
    cases hb : F (left lot u) with
    | true => rfl
    | false =>
      rw [← left_filter] at hb
      have q := h4 _ List.filter_sublist hb
      have q2 := filt_le (s := lot) (u := u) hn
      omega
  · rw [decide_eq_false (by omega)]
    cases hs : safeT F (min k n) lot with
    | false => rfl
    | true =>
      have := (safeT_iff F _ lot).mp hs c (by omega)
      rw [h2] at this
      cases this
/-- more pieces span no less -/
def Mono (F : List Nat → Bool) : Prop := ∀ s t : List Nat, (∀ x, x ∈ s → x ∈ t) → F s = true → F t = true
theorem meets_safe {w l : List Nat} {k : Nat} (hm : Mono F) (hw : w.Nodup) (hl : l.Sublist w) : meets l (harmsL F w) (k : Int) = true ↔ safeT F k l = true := by
  have hln : l.Nodup := hw.sublist hl
  unfold meets
  rw [List.all_eq_true, safeT_iff]
  refine ⟨fun h u hu => ?_, fun h c hc => ?_⟩
  · cases hb : F (left l u) with
    | true => rfl
    | false =>
      have hx : F (left w (w.filter fun a => !decide (a ∈ l) || decide (a ∈ u))) = false := by
        cases hz : F (left w (w.filter fun a => !decide (a ∈ l) || decide (a ∈ u))) with
        | false => rfl
        | true =>
          have := hm _ (left l u) (fun x hx => ?_) hz
          · rw [hb] at this
            cases this
          · unfold left at hx ⊢
            rw [List.mem_filter] at hx ⊢
            obtain ⟨h1, h2⟩ := hx
            rw [Bool.not_eq_true'] at h2
            have h3 := of_decide_eq_false h2
            rw [List.mem_filter] at h3
            have h4 : ¬ (!decide (x ∈ l) || decide (x ∈ u)) = true := fun z => h3 ⟨h1, z⟩
            rw [Bool.or_eq_true, not_or] at h4
            obtain ⟨h5, h6⟩ := h4
            have h7 : x ∈ l := by simpa using h5
            exact ⟨h7, by simpa using h6⟩
      obtain ⟨c, hc, hcu⟩ := harms_cover (F := F) (lot := w) List.filter_sublist hx
      have q := of_decide_eq_true (h c hc)
      have hcn : c.Nodup := hw.sublist (harms_bad hc).2
      have q2 : (c.filter fun a => decide (a ∈ l)).length ≤ u.length := nodup_le (hcn.sublist List.filter_sublist) fun x hx => by
        obtain ⟨h1, h2⟩ := List.mem_filter.mp hx
        have h3 := (List.mem_filter.mp (hcu x h1)).2
        rw [Bool.or_eq_true] at h3
        rcases h3 with h3 | h3
        · rw [h2] at h3
          cases h3
        · exact of_decide_eq_true h3
      omega
  · refine decide_eq_true ?_
    obtain ⟨hb, hcw⟩ := harms_bad hc
    have hcn : c.Nodup := hw.sublist hcw
    cases Nat.lt_or_ge k (c.filter fun a => decide (a ∈ l)).length with
    | inl z => omega
    | inr z =>
      have q := h _ z
      have e : left l (c.filter fun a => decide (a ∈ l)) = left l c := by
        unfold left
        refine List.filter_congr fun a ha => ?_
        have : a ∈ c.filter (fun a => decide (a ∈ l)) ↔ a ∈ c := by
          rw [List.mem_filter]
          exact ⟨fun h => h.1, fun h => ⟨h, decide_eq_true ha⟩⟩
        simp [this]
      rw [e] at q
      have := hm _ (left w c) (fun x hx => by
        unfold left at hx ⊢
        rw [List.mem_filter] at hx ⊢
        exact ⟨hl.subset hx.1, hx.2⟩) q
      rw [hb] at this
      cases this
end
end Mth
end

section
set_option Elab.async false
set_option linter.all false
/-! the order of lots -/
namespace Mth
def ltL : List Nat → List Nat → Prop
  | _, [] => False
  | [], _ :: _ => True
  | a :: s, b :: t => a < b ∨ (a = b ∧ ltL s t)
theorem combs_lex : ∀ (r : Nat) (l : List Nat), l.Pairwise (· < ·) → (combs r l).Pairwise ltL
  | 0, l, _ => by
    unfold combs
    exact List.pairwise_singleton _ _
  | r + 1, [], _ => by
    unfold combs
    exact List.Pairwise.nil
  | r + 1, x :: xs, h => by
    obtain ⟨h1, h2⟩ := List.pairwise_cons.mp h
    unfold combs
    rw [List.pairwise_append]
    refine ⟨?_, combs_lex (r + 1) xs h2, fun a ha b hb => ?_⟩
    · rw [List.pairwise_map]
      exact (combs_lex r xs h2).imp fun {a b} q => Or.inr ⟨rfl, q⟩
    · obtain ⟨a', _, rfl⟩ := List.mem_map.mp ha
      obtain ⟨hb1, hb2⟩ := mem_combs.mp hb
      cases b with
      | nil => cases hb2
      | cons y t =>
        exact Or.inl (h1 y (hb1.subset List.mem_cons_self))
theorem upto_order {l : List Nat} (h : l.Pairwise (· < ·)) : ∀ i, (upto i l).Pairwise fun a b => a.length < b.length ∨ (a.length = b.length ∧ ltL a b)
  | 0 => by
    unfold upto
    exact List.Pairwise.nil
  | i + 1 => by
    rw [upto_succ, List.pairwise_append]
    refine ⟨upto_order h i, ?_, fun a ha b hb => .inl ?_⟩
    · refine List.Pairwise.imp_of_mem ?_ (combs_lex i l h)
      intro a b ha hb q
      exact .inr ⟨by rw [(mem_combs.mp ha).2, (mem_combs.mp hb).2], q⟩
    · have h1 := (mem_upto.mp ha).2
      rw [(mem_combs.mp hb).2]
      exact h1
/-- the order by size, length, lot -/
def ltK (f : List Nat → Int) (a b : List Nat) : Prop := f a < f b ∨ (f a = f b ∧ (a.length < b.length ∨ (a.length = b.length ∧ ltL a b)))
/-- the first of the least size is less than all others -/
theorem first_least {f : List Nat → Int} {ls : List (List Nat)} {m : Int} {l : List Nat} {rest : List (List Nat)} (hp : ls.Pairwise fun a b => a.length < b.length ∨ (a.length = b.length ∧ ltL a b)) (hm : ∀ y, y ∈ ls → m ≤ f y) (h : ls.filter (fun l => decide (f l = m)) = l :: rest) :
    l ∈ ls ∧ f l = m ∧ ∀ s, s ∈ ls → s ≠ l → ltK f l s := by
  have hl : l ∈ ls.filter (fun l => decide (f l = m)) := by rw [h]; exact List.mem_cons_self
  obtain ⟨h1, h2⟩ := List.mem_filter.mp hl
  have h2 := of_decide_eq_true h2
  refine ⟨h1, h2, fun s hs hne => ?_⟩
  by_cases e : f s = m
  · have hs2 : s ∈ ls.filter (fun l => decide (f l = m)) := List.mem_filter.mpr ⟨hs, decide_eq_true e⟩
    have hp2 := hp.filter (fun l => decide (f l = m))
    rw [h] at hs2 hp2
    rcases List.mem_cons.mp hs2 with z | hs2
    · exact absurd z hne
    · exact .inr ⟨by rw [h2, e], (List.pairwise_cons.mp hp2).1 s hs2⟩
  · have := hm s hs
    exact .inl (by omega)
end Mth
end

section
set_option Elab.async false
set_option linter.all false
/-! the lot that is due -/
namespace Mth
section
variable {F : List Nat → Bool} {n k : Nat} {f : List Nat → Int}
theorem range_nd (n : Nat) : (List.range n).Nodup := List.nodup_range
theorem safe_min {l : List Nat} (hl : l.Sublist (List.range n)) : safeT F (min k n) l = safeT F k l := by
  have hn : l.Nodup := (range_nd n).sublist hl
  have hlen : l.length ≤ n := by
    have q := hl.length_le
    rw [List.length_range] at q
    exact q
  rw [Bool.eq_iff_iff, safeT_iff, safeT_iff]
  refine ⟨fun h u hu => ?_, fun h u hu => h u (by omega)⟩
  have q := h (l.filter fun a => decide (a ∈ u)) (by
    have q1 := filt_le (s := l) (u := u) hn
    have q2 := List.length_filter_le (fun a => decide (a ∈ u)) l
    omega)
  rw [left_filter] at q
  exact q
/-- the lots that the program calls good -/
noncomputable def goodG (F : List Nat → Bool) (n k : Nat) : List (List Nat) := (upto (n + 1) (List.range n)).filter fun l => meets l (harmsL F (List.range n)) (k : Int)
theorem mem_good (hm : Mono F) {l : List Nat} : l ∈ goodG F n k ↔ l.Sublist (List.range n) ∧ safeT F (min k n) l = true := by
  unfold goodG
  rw [List.mem_filter, mem_upto]
  constructor
  · rintro ⟨⟨h1, _⟩, h2⟩
    exact ⟨h1, by rw [safe_min h1]; exact (meets_safe hm (range_nd n) h1).mp h2⟩
  · rintro ⟨h1, h2⟩
    rw [safe_min h1] at h2
    refine ⟨⟨h1, ?_⟩, (meets_safe hm (range_nd n) h1).mpr h2⟩
    have q := h1.length_le
    rw [List.length_range] at q
    omega
/-- just the lots that are safe, in the law's order -/
def safes (F : List Nat → Bool) (t : Nat) (ls : List (List Nat)) : List (List Nat) := ls.filter fun s => safeT F t s
theorem mem_safes (hm : Mono F) {ls : List (List Nat)} (hp : ls.Perm (subsF (List.range n))) {l : List Nat} : l ∈ safes F (min k n) ls ↔ l ∈ goodG F n k := by
  rw [mem_good hm]
  unfold safes
  rw [List.mem_filter, hp.mem_iff, mem_subsF]
theorem ltL_irr : ∀ a : List Nat, ¬ ltL a a
  | [] => fun h => h
  | a :: s => fun h => by
    rcases h with h | ⟨_, h⟩
    · exact Nat.lt_irrefl _ h
    · exact ltL_irr s h
theorem ltL_asy : ∀ a b : List Nat, ltL a b → ¬ ltL b a
  | [], [], h => h.elim
  | [], _ :: _, _ => fun h => h
  | _ :: _, [], h => h.elim
  | a :: s, b :: t, h => fun q => by
    rcases h with h | ⟨rfl, h⟩
    · rcases q with q | ⟨rfl, q⟩
      · omega
      · omega
    · rcases q with q | ⟨_, q⟩
      · omega
      · exact ltL_asy s t h q
theorem ltK_asy {a b : List Nat} (h : ltK f a b) : ¬ ltK f b a := fun q => by
  rcases h with h | ⟨e, h⟩
  · rcases q with q | ⟨e2, q⟩
    · omega
    · omega
  · rcases q with q | ⟨e2, q⟩
    · omega
    · rcases h with h | ⟨e3, h⟩
      · rcases q with q | ⟨e4, q⟩
        · omega
        · omega
      · rcases q with q | ⟨e4, q⟩
        · omega
        · exact ltL_asy _ _ h q
theorem least_ex : ∀ {l : List Int}, l ≠ [] → ∃ m, m ∈ l ∧ ∀ y, y ∈ l → m ≤ y
  | [], h => absurd rfl h
  | [x], _ => ⟨x, List.mem_cons_self, fun y hy => by rw [List.mem_singleton.mp hy]; exact Int.le_refl _⟩
  | x :: y :: r, _ => by
    obtain ⟨m, h1, h2⟩ := least_ex (l := y :: r) (by intro z; cases z)
    by_cases h : x ≤ m
    · refine ⟨x, List.mem_cons_self, fun z hz => ?_⟩
      rcases List.mem_cons.mp hz with rfl | hz
      · exact Int.le_refl _
      · exact Int.le_trans h (h2 z hz)
    · refine ⟨m, List.mem_cons_of_mem _ h1, fun z hz => ?_⟩
      rcases List.mem_cons.mp hz with rfl | hz
      · omega
      · exact h2 z hz
theorem good_order : (goodG F n k).Pairwise fun a b => a.length < b.length ∨ (a.length = b.length ∧ ltL a b) :=
  (upto_order List.pairwise_lt_range (n + 1)).filter _
/-- the one that is due -/
structure Due (F : List Nat → Bool) (n k : Nat) (f : List Nat → Int) (ls : List (List Nat)) (l : List Nat) : Prop where
  mem : l ∈ safes F (min k n) ls
  lt : ∀ s, s ∈ safes F (min k n) ls → s ≠ l → ltK f l s
theorem due_ex (hm : Mono F) {ls : List (List Nat)} (hp : ls.Perm (subsF (List.range n))) (hne : safes F (min k n) ls ≠ []) : ∃ l, Due F n k f ls l := by
  obtain ⟨s0, hs0⟩ := List.exists_mem_of_ne_nil _ hne
  have hg0 : s0 ∈ goodG F n k := (mem_safes hm hp).mp hs0
  obtain ⟨m, m1, m2⟩ := least_ex (l := (goodG F n k).map f) (by
    intro z
    rw [List.map_eq_nil_iff] at z
    rw [z] at hg0
    cases hg0)
  obtain ⟨l0, hl0, el0⟩ := List.mem_map.mp m1
  have hf0 : l0 ∈ (goodG F n k).filter (fun l => decide (f l = m)) := List.mem_filter.mpr ⟨hl0, decide_eq_true el0⟩
  cases hfl : (goodG F n k).filter (fun l => decide (f l = m)) with
  | nil =>
    rw [hfl] at hf0
    cases hf0
  | cons l rest =>
    obtain ⟨h1, h2, h3⟩ := first_least good_order (fun y hy => m2 _ (List.mem_map.mpr ⟨y, hy, rfl⟩)) hfl
    exact ⟨l, (mem_safes hm hp).mpr h1, fun s hs hne => h3 s ((mem_safes hm hp).mp hs) hne⟩
theorem due_one {ls : List (List Nat)} {l l' : List Nat} (h : Due F n k f ls l) (h' : Due F n k f ls l') : l = l' := by
  by_cases e : l = l'
  · exact e
  · exact absurd (h.lt l' h'.mem fun z => e z.symm) (ltK_asy (h'.lt l h.mem e))
/-- what lightest_safe tells is due -/
theorem due_some (hm : Mono F) {ls : List (List Nat)} (hp : ls.Perm (subsF (List.range n))) {m : Int} {l : List Nat} {rest : List (List Nat)} (h1 : ∀ y, y ∈ goodG F n k → m ≤ f y) (h2 : (goodG F n k).filter (fun l => decide (f l = m)) = l :: rest) : Due F n k f ls l := by
  obtain ⟨q1, q2, q3⟩ := first_least good_order h1 h2
  exact ⟨(mem_safes hm hp).mpr q1, fun s hs hne => q3 s ((mem_safes hm hp).mp hs) hne⟩
theorem due_none (hm : Mono F) {ls : List (List Nat)} (hp : ls.Perm (subsF (List.range n))) (h : goodG F n k = [] ∨ ∃ cs, harmsL F (List.range n) = [] :: cs) : safes F (min k n) ls = [] := by
  refine List.eq_nil_iff_forall_not_mem.mpr fun s hs => ?_
  have hg := (mem_safes hm hp).mp hs
  rcases h with h | ⟨cs, h⟩
  · rw [h] at hg
    cases hg
  · obtain ⟨g1, g2⟩ := (mem_good hm).mp hg
    have hb : F (left (List.range n) []) = false := (harms_bad (F := F) (lot := List.range n) (h := []) (by rw [h]; exact List.mem_cons_self)).1
    rw [left_nil] at hb
    have hs2 := (safeT_iff F _ s).mp g2 [] (Nat.zero_le _)
    rw [left_nil] at hs2
    rw [hm s (List.range n) (fun x hx => g1.subset hx) hs2] at hb
    cases hb
end
end Mth
end

section
set_option Elab.async false
set_option linter.all false
set_option maxRecDepth 100000
set_option maxHeartbeats 2000000
/-! itertools.combinations, at the library's level -/
namespace Cb
open PySem PySem.Spec
open Sem (wp)

theorem mro_cb : mroOf (.type "itertools.combinations") = pure [.type "itertools.combinations", .type "object"] := by rw [mroOf_type]; kernel_rfl
theorem lookup_cb_new : typeLookup (.type "itertools.combinations") "__new__" = pure (some (.builtin "itertools.combinations.__new__")) := by rw [typeLookup_type, builtinLookup_eq_fast]; kernel_rfl
theorem slot_cb_init : Slot "itertools.combinations" "__init__" "object.__init__" :=
  .of (owner := "object") (n := "__init__") (by rw [typeLookup_type, builtinLookup_eq_fast]; kernel_rfl) (by decide +kernel) (by decide +kernel) (by decide +kernel)
    (by first | exact .inl (by decide +kernel) | exact .inr (by decide +kernel)) (by rw [isSubtype_type]; kernel_rfl)
theorem sub_cb : isSubtype (.type "itertools.combinations") (.type "itertools.combinations") = pure true := by rw [isSubtype_type]; kernel_rfl
theorem called_cb : TypeCalled "itertools.combinations" "itertools.combinations.__new__" "object.__init__" :=
  ⟨by decide +kernel, by decide +kernel, ⟨_, _, mro_cb⟩, madeBy_type mro_cb lookup_cb_new (by decide +kernel), by decide +kernel, sub_cb, slot_cb_init⟩
theorem typeCall_cb (a b : Value) : checkTypeCall "itertools.combinations" ⟨[a, b], []⟩ = pure () := by kernel_rfl
theorem newCall_cb (a b : Value) : checkBuiltinCall "itertools.combinations.__new__" ⟨[.type "itertools.combinations", a, b], []⟩ = pure () := by kernel_rfl
theorem entry_cb_new : entryFor table "itertools.combinations.__new__" = some Builtin.«itertools.combinations.__new__» := entryFor_of_tree (by kernel_rfl)
theorem slot_cb_iter : Slot "itertools.combinations" "__iter__" "itertools.combinations.__iter__" :=
  .of (owner := "itertools.combinations") (n := "__iter__") (by rw [typeLookup_type, builtinLookup_eq_fast]; kernel_rfl) (by decide +kernel) (by decide +kernel) (by decide +kernel)
    (by first | exact .inl (by decide +kernel) | exact .inr (by decide +kernel)) sub_cb
theorem slot_cb_next : Slot "itertools.combinations" "__next__" "itertools.combinations.__next__" :=
  .of (owner := "itertools.combinations") (n := "__next__") (by rw [typeLookup_type, builtinLookup_eq_fast]; kernel_rfl) (by decide +kernel) (by decide +kernel) (by decide +kernel)
    (by first | exact .inl (by decide +kernel) | exact .inr (by decide +kernel)) sub_cb
theorem entry_cb_iter : entryFor table "itertools.combinations.__iter__" = some Builtin.«dict_keyiterator.__iter__» :=
  entryFor_alias (id' := "dict_keyiterator.__iter__") (by kernel_rfl) (by first | rfl | decide +kernel | (unfold String.splitOn; simp +decide [String.splitOnAux])) (by decide +kernel) (by kernel_rfl)
theorem entry_cb_next : entryFor table "itertools.combinations.__next__" = some Builtin.«itertools.combinations.__next__» := entryFor_of_tree (by kernel_rfl)
theorem owner_cb : Manifest.owners.lookup (String.ofList ['s', 'n', 'o', 'i', 't', 'a', 'n', 'i', 'b', 'm', 'o', 'c', '.', 's', 'l', 'o', 'o', 't', 'r', 'e', 't', 'i'].reverse) = some Manifest.sig_itertools_combinations := by kernel_rfl
theorem args_cb_iter (a : Value) : argsOk "itertools.combinations.__iter__" ⟨[a], []⟩ := by
  unfold argsOk; rw [signature?_of (id := "itertools.combinations.__iter__") (n := ['_', '_', 'r', 'e', 't', 'i', '_', '_']) (o := ['s', 'n', 'o', 'i', 't', 'a', 'n', 'i', 'b', 'm', 'o', 'c', '.', 's', 'l', 'o', 'o', 't', 'r', 'e', 't', 'i']) (by kernel_rfl) owner_cb]; kernel_rfl
theorem args_cb_next (a : Value) : argsOk "itertools.combinations.__next__" ⟨[a], []⟩ := by
  unfold argsOk; rw [signature?_of (id := "itertools.combinations.__next__") (n := ['_', '_', 't', 'x', 'e', 'n', '_', '_']) (o := ['s', 'n', 'o', 'i', 't', 'a', 'n', 'i', 'b', 'm', 'o', 'c', '.', 's', 'l', 'o', 'o', 't', 'r', 'e', 't', 'i']) (by kernel_rfl) owner_cb]; kernel_rfl
theorem noDict_cb : typeHasDict (.type "itertools.combinations") = false := by decide +kernel

/-- the record: pool, state, last one, places -/
def recVs (pool : Addr) (st : Int) (old : Value) (ix : List Nat) : Array Value := ([.ref pool, rawInt st, old] ++ ix.map fun (i : Nat) => rawInt i).toArray
abbrev cbObj (pool : Addr) (st : Int) (old : Value) (ix : List Nat) : Obj := { cls := .type "itertools.combinations", data := .fields (recVs pool st old ix) }
abbrev tupObj (items : Array Value) : Obj := { cls := .type "tuple", data := .seq items }

end Cb
end

section
set_option Elab.async false
set_option linter.all false
set_option maxRecDepth 100000
set_option maxHeartbeats 2000000
namespace Cb
open PySem PySem.Spec
open Sem (wp)
/-- what the making asks and gives: what is walked is collected into items, laid as a pool -/
def NewSpec (v : Value) (r : Nat) : Spec := fun A R s => ∀ (prog : Program) (w : World) (E : Value → Shared → Prop), wpAny (model prog w) A.in1 (collect v) (fun items s' => items.length ≤ 1000 ∧
  R (.ok (.ret (.ref (s'.heap.objs.size + 1)))) { s' with heap := (s'.heap.push (tupObj items.toArray)).push (cbObj s'.heap.objs.size (if r > items.length then 2 else 0) .none (List.range r)) }) E s
theorem cls_eq (a b : Value) : Builtin.Itertools.itClassAndRest "combinations" ⟨[.type "itertools.combinations", a, b], []⟩ = pure (.type "itertools.combinations", [a, b]) := by
  unfold Builtin.Itertools.itClassAndRest
  have hsub := sub_cb
  show (isSubtype (.type "itertools.combinations") (.type "itertools.combinations") >>= _) = _
  rw [hsub]
  rfl
theorem bind_eq (a b : Value) : Builtin.Itertools.itBindNamed "combinations" ["iterable", "r"] 2 2 [a, b] [] = pure [some a, some b] := by
  first | rfl | kernel_rfl
theorem ssize_eq (r : Nat) (t : Tok) (h : r ≤ 1000) : Builtin.Itertools.itSsizeArg (.int r t) = pure (r : Int) := by
  unfold Builtin.Itertools.itSsizeArg
  show (if ((decide ((r : Int) < -(2 ^ 63 : Int)) || decide ((r : Int) ≥ 2 ^ 63)) = true) then _ else _) = _
  have a : decide ((r : Int) < -(2 ^ 63 : Int)) = false := decide_eq_false (by omega)
  have b : decide ((r : Int) ≥ (2 ^ 63 : Int)) = false := decide_eq_false (by omega)
  rw [a, b]
  rfl
theorem meets_cb_new (v : Value) (r : Nat) (t : Tok) (h1 : r ≤ 1000) : Meets (Builtin.«itertools.combinations.__new__» ⟨[.type "itertools.combinations", v, .int r t], []⟩) (NewSpec v r) :=
  .of_wp fun prog w A R s h => by
    have hc := h prog w (fun e s' => R (.error e) s')
    obtain ⟨hp, g, dd, tk, os⟩ := s
    unfold Builtin.«itertools.combinations.__new__»
    refine wpAny_bind ?_
    refine wpAny_bind (m := Builtin.Itertools.itClassAndRest "combinations" _) (wpAny_of_eq (cls_eq _ _) ?_)
    refine wpAny_bind (m := Builtin.Itertools.itBindNamed "combinations" ["iterable", "r"] 2 2 [v, .int r t] []) (wpAny_of_eq (bind_eq _ _) ?_)
    refine wpAny_bind (m := Builtin.Itertools.itSsizeArg (.int r t)) (wpAny_of_eq (ssize_eq r t h1) ?_)
    refine wpAny_bind (m := collect v) (wpAny_mono hc (fun items s' hq => ?_) fun _ _ x => x)
    obtain ⟨hl, hq⟩ := hq
    show wpAny _ _ (if (r : Int) < 0 then _ else _) _ _ _
    rw [if_neg (by omega)]
    have e2 : Builtin.Itertools.itTooMany (r : Int) = false := decide_eq_false (by omega)
    show wpAny _ _ (if Builtin.Itertools.itTooMany (r : Int) = true then _ else _) _ _ _
    rw [e2, if_neg Bool.false_ne_true]
    refine wpAny_bind (m := newTuple items) (wpAny_newObj_type ?_ ?_)
    · refine wpAny_pure ?_
      show wpAny _ _ (Builtin.Itertools.itNewRecord (.type "itertools.combinations") _ >>= _) _ _ _
      refine wpAny_bind ?_
      unfold Builtin.Itertools.itNewRecord
      have hd := noDict_cb
      show wpAny _ _ (if (!typeHasDict (.type "itertools.combinations")) = true then _ else _) _ _ _
      rw [hd, if_pos (show (!false) = true from rfl)]
      refine wpAny_newObj_type (wpAny_pure ⟨_, rfl, ?_⟩) ?_
      · have e3 : (s'.heap.push { cls := .type "tuple", data := .seq items.toArray }).objs.size = s'.heap.objs.size + 1 := Heap.size_push ..
        rw [e3]
        exact hq
      · show _ ≤ _
        simp
        have := sizeLine_eq
        omega
    · show items.toArray.size ≤ sizeLine
      have := sizeLine_eq
      rw [List.size_toArray]
      omega
end Cb
end

section
set_option Elab.async false
set_option linter.all false
set_option maxRecDepth 100000
set_option maxHeartbeats 2000000
namespace Cb
open PySem PySem.Spec
open Sem (wp)
/-- the next places -/
def nextC (n : Nat) (ix : List Nat) : Option (List Nat) :=
  match (List.range ix.length).reverse.find? fun i => ix.getD i 0 != i + n - ix.length with
  | none => none
  | some i => some (ix.take i ++ (List.range (ix.length - i)).map (ix.getD i 0 + 1 + ·))
/-- the items at places -/
def picked (items : Array Value) (ix : List Nat) : List Value := ix.map fun i => items.getD i .none
def handOut (it pool : Value) (ix : List Nat) : Sem PySem.Fin := do
  let result ← (do
    let items ← Builtin.Itertools.itPoolItems pool
    newTuple (ix.map fun i => items.getD i .none))
  let before ← field it 2
  setField it 2 result
  letGo [before] [result]
  ret result
section
variable {prog : Program} {w : World} {A : Around} {E : Value → Shared → Prop} {s : Shared} {it pool : Addr} {items : Array Value} {st : Int} {old : Value} {ix : List Nat}
theorem recVs_1 : (recVs pool st old ix)[1]? = some (rawInt st) := by unfold recVs; simp
theorem recVs_0 : (recVs pool st old ix)[0]? = some (.ref pool) := by unfold recVs; simp
theorem recVs_2 : (recVs pool st old ix)[2]? = some old := by unfold recVs; simp
theorem recVs_size : (recVs pool st old ix).size = 3 + ix.length := by unfold recVs; simp; omega
theorem recVs_set1 {z : Int} : (recVs pool st old ix).setIfInBounds 1 (rawInt z) = recVs pool z old ix := by unfold recVs; simp
theorem recVs_set2 {z : Value} : (recVs pool st old ix).setIfInBounds 2 z = recVs pool st z ix := by unfold recVs; simp
theorem recVs_nums : ((recVs pool st old ix).toList.drop 3).map (fun | .int n _ => n.toNat | _ => 0) = ix := by
  unfold recVs
  simp [rawInt]
  induction ix with
  | nil => rfl
  | cons i ix ih =>
    simp
    exact ih
theorem recVs_ix {jx : List Nat} : (recVs pool st old ix).extract 0 3 ++ (jx.map fun (n : Nat) => rawInt n).toArray = recVs pool st old jx := by
  unfold recVs
  apply Array.ext'
  simp
theorem upd_obj {a : Addr} {h : Heap} {vs : Array Value} {f : Array Value → Array Value} (ho : h.get? a = some { cls := .type "itertools.combinations", data := .fields vs }) :
    (h.update a (Obj.mapFields f)).get? a = some { cls := .type "itertools.combinations", data := .fields (f vs) } := Heap.get?_update_self _ ho rfl
/-- handing out: a new tuple -/
theorem handOut_ok {Q : PySem.Fin → Shared → Prop} (hit : s.heap.get? it = some (cbObj pool st old ix)) (hpq : s.heap.get? pool = some (tupObj items)) (hl : ix.length ≤ 1000)
    (h : ∀ h', h'.get? it = some (cbObj pool st (.ref s.heap.objs.size) ix) → h'.get? s.heap.objs.size = some (tupObj (picked items ix).toArray) → (∀ b o, b ≠ it → s.heap.get? b = some o → h'.get? b = some o) → Q (.done (.ret (.ref s.heap.objs.size))) { s with heap := h' }) :
    wpAny (model prog w) A (handOut (.ref it) (.ref pool) ix) Q E s := by
  unfold handOut
  refine wpAny_bind (m := (do
    let items ← Builtin.Itertools.itPoolItems (.ref pool)
    newTuple (ix.map fun i => items.getD i .none))) ?_
  refine wpAny_bind (m := Builtin.Itertools.itPoolItems (.ref pool)) ?_
  unfold Builtin.Itertools.itPoolItems
  refine wpAny_bind (wpAny_seqItems hpq rfl ?_)
  refine wpAny_pure ?_
  refine wpAny_newObj_type ?_ ?_
  · have ne : it ≠ s.heap.objs.size := Nat.ne_of_lt (Heap.lt_size hit)
    have hit2 : (s.heap.push { cls := .type "tuple", data := .seq (ix.map fun i => items.getD i .none).toArray }).get? it = some (cbObj pool st old ix) := Heap.get?_push_of_some _ hit
    refine wpAny_bind (wpAny_field hit2 rfl recVs_2 ?_)
    refine wpAny_bind (wpAny_setField hit2 rfl (by rw [recVs_size]; omega) ?_)
    refine wpAny_bind (wpAny_letGo ?_)
    refine wpAny_pure (h _ ?_ ?_ ?_)
    · rw [upd_obj hit2, recVs_set2]
    · exact (Heap.get?_update_other _ _ ne).trans (Heap.get?_push_size _ rfl)
    · intro b o hb e
      exact (Heap.get?_update_other _ _ (Ne.symm hb)).trans (Heap.get?_push_of_some _ e)
  · show _ ≤ _
    rw [List.size_toArray, List.length_map]
    have := sizeLine_eq
    omega
def nextBody (it : Value) : Sem PySem.Fin := do
  let pool ← field it 0
  let indices ← Builtin.Itertools.itNumbersFrom it 3
  match ← Builtin.Itertools.itIntField it 1 with
  | 0 => setField it 1 (rawInt 1); handOut it pool indices
  | 1 =>
    match nextC (← Builtin.Itertools.itPoolItems pool).size indices with
    | some next => Builtin.Itertools.itSetNumbersFrom it 3 next; handOut it pool next
    | none => setField it 1 (rawInt 2); Builtin.Itertools.itStop
  | _ => let _ ← rule "itertools.combinations.ended"; Builtin.Itertools.itStop
theorem next_eq (it : Value) : Builtin.«itertools.combinations.__next__» ⟨[it], []⟩ = nextBody it := by
  unfold Builtin.«itertools.combinations.__next__»
  first | rfl | kernel_rfl
section
variable {prog : Program} {w : World} {A : Around} {E : Value → Shared → Prop} {s : Shared} {it pool : Addr} {items : Array Value} {st : Int} {old : Value} {ix : List Nat}
theorem nums_ok {Q : List Nat → Shared → Prop} (hit : s.heap.get? it = some (cbObj pool st old ix)) (h : Q ix s) : wpAny (model prog w) A (Builtin.Itertools.itNumbersFrom (.ref it) 3) Q E s := by
  unfold Builtin.Itertools.itNumbersFrom
  refine wpAny_bind (wpAny_load hit ?_)
  refine wpAny_pure ?_
  have e := recVs_nums (pool := pool) (st := st) (old := old) (ix := ix)
  rw [← e] at h
  exact h
theorem st_ok {Q : Int → Shared → Prop} (hit : s.heap.get? it = some (cbObj pool st old ix)) (h : Q st s) : wpAny (model prog w) A (Builtin.Itertools.itIntField (.ref it) 1) Q E s := by
  unfold Builtin.Itertools.itIntField
  exact wpAny_bind (wpAny_field hit rfl recVs_1 (wpAny_pure h))
/-- what a next hands on: the record turned, a new tuple -/
abbrev Turned (s : Shared) (it pool : Addr) (items : Array Value) (ix : List Nat) (Q : PySem.Fin → Shared → Prop) : Prop :=
  ∀ h', h'.get? it = some (cbObj pool 1 (.ref s.heap.objs.size) ix) → h'.get? s.heap.objs.size = some (tupObj (picked items ix).toArray) → (∀ b o, b ≠ it → s.heap.get? b = some o → h'.get? b = some o) → Q (.done (.ret (.ref s.heap.objs.size))) { s with heap := h' }
theorem first_ok {Q : PySem.Fin → Shared → Prop} (hit : s.heap.get? it = some (cbObj pool 0 old ix)) (hpq : s.heap.get? pool = some (tupObj items)) (hne : pool ≠ it) (hl : ix.length ≤ 1000) (h : Turned s it pool items ix Q) :
    wpAny (model prog w) A (nextBody (.ref it)) Q E s := by
  unfold nextBody
  refine wpAny_bind (wpAny_field hit rfl recVs_0 ?_)
  refine wpAny_bind (nums_ok hit ?_)
  refine wpAny_bind (st_ok hit ?_)
  refine wpAny_bind (wpAny_setField hit rfl (by rw [recVs_size]; omega) ?_)
  have hit2 := upd_obj (f := fun x => x.setIfInBounds 1 (rawInt 1)) hit
  rw [recVs_set1] at hit2
  have sz : (s.heap.update it (Obj.mapFields fun x => x.setIfInBounds 1 (rawInt 1))).objs.size = s.heap.objs.size := Heap.size_update ..
  refine handOut_ok (s := { s with heap := s.heap.update it (Obj.mapFields fun x => x.setIfInBounds 1 (rawInt 1)) }) hit2 ((Heap.get?_update_other _ _ (Ne.symm hne)).trans hpq) hl fun h' a1 a2 a3 => ?_
  dsimp only at a1 a2 a3 ⊢
  rw [sz] at a1 a2 ⊢
  exact h h' a1 a2 fun b o hb e => a3 b o hb ((Heap.get?_update_other _ _ (Ne.symm hb)).trans e)
theorem more_ok {next : List Nat} {Q : PySem.Fin → Shared → Prop} (hit : s.heap.get? it = some (cbObj pool 1 old ix)) (hpq : s.heap.get? pool = some (tupObj items)) (hne : pool ≠ it) (hn : nextC items.size ix = some next) (hl : next.length ≤ 1000)
    (h : Turned s it pool items next Q) : wpAny (model prog w) A (nextBody (.ref it)) Q E s := by
  unfold nextBody
  refine wpAny_bind (wpAny_field hit rfl recVs_0 ?_)
  refine wpAny_bind (nums_ok hit ?_)
  refine wpAny_bind (st_ok hit ?_)
  refine wpAny_bind (m := Builtin.Itertools.itPoolItems (.ref pool)) ?_
  unfold Builtin.Itertools.itPoolItems
  refine wpAny_bind (wpAny_seqItems hpq rfl ?_)
  refine wpAny_pure ?_
  change wpAny _ _ (match nextC items.size ix with | some next => _ | none => _) _ _ _
  rw [hn]
  change wpAny _ _ (Builtin.Itertools.itSetNumbersFrom (.ref it) 3 next >>= _) _ _ _
  refine wpAny_bind ?_
  unfold Builtin.Itertools.itSetNumbersFrom
  have hsz : ((recVs pool 1 old ix).extract 0 3 ++ (next.map fun (n : Nat) => rawInt n).toArray).size ≤ sizeLine + 3 := by
    rw [recVs_ix, recVs_size]
    have := sizeLine_eq
    omega
  refine wpAny_updateFields hit rfl ?_ hsz
  have hit2 := upd_obj (f := fun fs => fs.extract 0 3 ++ (next.map fun (n : Nat) => rawInt n).toArray) hit
  rw [recVs_ix] at hit2
  have sz : (s.heap.update it (Obj.mapFields fun fs => fs.extract 0 3 ++ (next.map fun (n : Nat) => rawInt n).toArray)).objs.size = s.heap.objs.size := Heap.size_update ..
  refine handOut_ok (s := { s with heap := s.heap.update it (Obj.mapFields fun fs => fs.extract 0 3 ++ (next.map fun (n : Nat) => rawInt n).toArray) }) hit2 ((Heap.get?_update_other _ _ (Ne.symm hne)).trans hpq) hl fun h' a1 a2 a3 => ?_
  dsimp only at a1 a2 a3 ⊢
  rw [sz] at a1 a2 ⊢
  exact h h' a1 a2 fun b o hb e => a3 b o hb ((Heap.get?_update_other _ _ (Ne.symm hb)).trans e)
theorem stop_ok {α : Type} {Q : α → Shared → Prop} (hh : A.handled = none) (hQ : ∀ e h', CpRep.StopE e h' → Heap.ExtBut it s.heap h' → E e { s with heap := h' }) : wpAny (model prog w) A (Builtin.Itertools.itStop : Sem α) Q E s := by
  unfold Builtin.Itertools.itStop
  change wpAny _ _ (newExc (.type "StopIteration") [] >>= _) _ _ _
  refine wpAny_bind ?_
  simp only [newExc, newTuple]
  refine wpAny_bind (wpAny_newObj_type ?_ (by size_fits)); refine wpAny_bind (m := firstArgMember _ _) (wpAny_of_eq (a := Value.none) (by first | rfl | (simp only [firstArgMember]; rfl)) ?_)
  refine wpAny_newObj_type ?_ (by size_fits); simp only [raiseNew]
  refine wpAny_bind (wpAny_handled ?_); rw [hh]; refine wpAny_bind (wpAny_pure (wpAny_throw ?_))
  exact hQ _ _ ⟨_, _, _, rfl, Heap.get?_push_size _ rfl, rfl, rfl, rfl⟩ (Heap.ExtBut.push (Heap.ExtBut.push (Heap.ExtBut.refl it s.heap) _) _)
/-- at the end: from the last one, or at once (there are too few items) -/
theorem end_ok {Q : PySem.Fin → Shared → Prop} (hh : A.handled = none) (hit : s.heap.get? it = some (cbObj pool st old ix)) (hpq : s.heap.get? pool = some (tupObj items)) (hst : (st = 1 ∧ nextC items.size ix = none) ∨ st = 2)
    (hQ : ∀ e h', CpRep.StopE e h' → Heap.ExtBut it s.heap h' → E e { s with heap := h' }) : wpAny (model prog w) A (nextBody (.ref it)) Q E s := by
  unfold nextBody
  refine wpAny_bind (wpAny_field hit rfl recVs_0 ?_)
  refine wpAny_bind (nums_ok hit ?_)
  refine wpAny_bind (st_ok hit ?_)
  rcases hst with ⟨rfl, hn⟩ | rfl
  · refine wpAny_bind (m := Builtin.Itertools.itPoolItems (.ref pool)) ?_
    unfold Builtin.Itertools.itPoolItems
    refine wpAny_bind (wpAny_seqItems hpq rfl ?_)
    refine wpAny_pure ?_
    change wpAny _ _ (match nextC items.size ix with | some next => _ | none => _) _ _ _
    rw [hn]
    refine wpAny_bind (wpAny_setField hit rfl (by rw [recVs_size]; omega) ?_)
    exact stop_ok hh fun e h' a b => hQ e h' a fun c o hc e2 => b c o hc ((Heap.get?_update_other _ _ (Ne.symm hc)).trans e2)
  · refine wpAny_bind (wpAny_rule ?_)
    exact stop_ok hh fun e h' a b => hQ e h' a b
end
end
end Cb
end

section
set_option Elab.async false
set_option linter.all false
set_option maxRecDepth 100000
set_option maxHeartbeats 2000000
namespace Cb
open PySem PySem.Spec
open Sem (wp)
theorem nextC_is (n : Nat) (ix : List Nat) : nextC n ix = Mth.nextC n ix := rfl
/-- ahead of turn i -/
def Plc (n r i : Nat) (st : Int) (ix : List Nat) : Prop :=
  (n < r ∧ st = 2 ∧ i = 0) ∨ (r ≤ n ∧ i = 0 ∧ st = 0 ∧ ix = List.range r) ∨ (∃ j, i = j + 1 ∧ st = 1 ∧ (Mth.combIx n r)[j]? = some ix)
def At (it pool : Addr) (items : Array Value) (r i : Nat) (h : Heap) : Prop :=
  pool ≠ it ∧ h.get? pool = some (tupObj items) ∧ r ≤ 1000 ∧ ∃ st old ix, h.get? it = some (cbObj pool st old ix) ∧ Plc items.size r i st ix
theorem At.start {it pool : Addr} {items : Array Value} {r : Nat} {h : Heap} {old : Value} (hne : pool ≠ it) (hp : h.get? pool = some (tupObj items)) (hr : r ≤ 1000) (hit : h.get? it = some (cbObj pool (if r > items.size then 2 else 0) old (List.range r))) : At it pool items r 0 h := by
  refine ⟨hne, hp, hr, _, old, _, hit, ?_⟩
  by_cases q : r > items.size
  · rw [if_pos q]
    exact .inl ⟨q, rfl, rfl⟩
  · rw [if_neg q]
    exact .inr (.inl ⟨by omega, rfl, rfl, rfl⟩)
theorem At.keep {it pool : Addr} {items : Array Value} {r i : Nat} {h h' : Heap} (a : At it pool items r i h) (k : ∀ b ∈ [it, pool], ∀ o, h.get? b = some o → h'.get? b = some o) : At it pool items r i h' := by
  obtain ⟨nSame, nList, nTup, st, old, ix, h4, h5⟩ := a
  exact ⟨nSame, k pool (by simp) _ nList, nTup, st, old, ix, k it (by simp) _ h4, h5⟩
section
variable {prog : Program} {w : World} {A : Around} {E : Value → Shared → Prop} {s : Shared} {it pool : Addr} {items : Array Value} {r i : Nat}
theorem At.typeIs (a : At it pool items r i s.heap) : s.TypeIs (.ref it) "itertools.combinations" := by
  obtain ⟨nSame, nList, nTup, st, old, ix, h4, h5⟩ := a
  exact ⟨_, h4, rfl⟩
theorem next_item {ix : List Nat} {Q : Option Value → Shared → Prop} (a : At it pool items r i s.heap) (hx : (Mth.combIx items.size r)[i]? = some ix)
    (hGo : ∀ h', At it pool items r (i + 1) h' → h'.get? s.heap.objs.size = some (tupObj (picked items ix).toArray) → (∀ b o, b ≠ it → s.heap.get? b = some o → h'.get? b = some o) → Q (some (.ref s.heap.objs.size)) { s with heap := h' }) :
    wpAny (model prog w) A (pyNext (.ref it)) Q E s := by
  have hT := a.typeIs
  obtain ⟨nSame, nList, nTup, st, old, jx, h4, h5⟩ := a
  have hlen : ix.length ≤ 1000 := by
    have q := Mth.mem_combs.mp (List.mem_of_getElem? hx)
    rw [q.2]; exact nTup
  unfold pyNext
  refine wpAny_bind (wpAny_attempt (wpAny_callSpecial?_slot (name := Str.ofString "__next__") hT slot_cb_next (wpAny_call_entry slot_cb_next hT entry_cb_next ?_ (args_cb_next _))))
  rw [next_eq]
  have fin : Turned s it pool items ix (fun fin s' => ∃ v, fin = .done (.ret v) ∧ wpAny (model prog w) A (pure (some v)) Q E s') := by
    intro h' b1 b2 b3
    have ne : pool ≠ s.heap.objs.size := Nat.ne_of_lt (Heap.lt_size nList)
    exact ⟨_, rfl, wpAny_pure (hGo h' ⟨nSame, b3 pool _ nSame nList, nTup, 1, _, ix, b1, .inr (.inr ⟨i, rfl, rfl, hx⟩)⟩ b2 b3)⟩
  rcases h5 with ⟨q1, q2, q3⟩ | ⟨q1, q2, q3, q4⟩ | ⟨j, q1, q2, q3⟩
  · rw [Mth.combIx_nil q1] at hx
    cases hx
  · subst q2 q3 q4
    rw [Mth.combIx_head q1] at hx
    have e := Option.some.inj hx
    subst e
    exact first_ok h4 nList nSame hlen fin
  · subst q1 q2
    have e := Mth.combIx_next q3
    rw [hx] at e
    exact more_ok h4 nList nSame e hlen fin
theorem next_end {Q : Option Value → Shared → Prop} (hHd : A.handled = none) (a : At it pool items r i s.heap) (hx : (Mth.combIx items.size r).length ≤ i)
    (hGo : ∀ h', (∀ b o, b ≠ it → s.heap.get? b = some o → h'.get? b = some o) → Q none { s with heap := h' }) : wpAny (model prog w) A (pyNext (.ref it)) Q E s := by
  have hT := a.typeIs
  obtain ⟨nSame, nList, nTup, st, old, jx, h4, h5⟩ := a
  unfold pyNext
  refine wpAny_bind (wpAny_attempt (wpAny_callSpecial?_slot (name := Str.ofString "__next__") hT slot_cb_next (wpAny_call_entry slot_cb_next hT entry_cb_next ?_ (args_cb_next _))))
  rw [next_eq]
  refine end_ok (A := A.in1) hHd h4 nList ?_ fun e h' hSl hX => ?_
  · rcases h5 with ⟨q1, q2, q3⟩ | ⟨q1, q2, q3, q4⟩ | ⟨j, q1, q2, q3⟩
    · exact .inr q2
    · subst q2
      have := Mth.combIx_head q1
      have := (List.getElem?_eq_some_iff.mp this).1
      omega
    · refine .inl ⟨q2, ?_⟩
      have e := Mth.combIx_next q3
      rw [nextC_is, e]
      exact List.getElem?_eq_none_iff.mpr (by omega)
  · obtain ⟨ea, o, vs, rfl, ho, hc, hd, hv⟩ := hSl
    refine wpAny_bind (wpAny_isInstance (T := "StopIteration") (b := true) ⟨o, ho, hc⟩ isSubtype_stop ?_)
    exact wpAny_pure (hGo h' hX)
theorem self_iter {Q : Value → Shared → Prop} (a : At it pool items r i s.heap) (h : Q (.ref it) s) : wpAny (model prog w) A (pyIter (.ref it)) Q E s := by
  have hT := a.typeIs
  refine wpAny_pyIter_slot hT slot_cb_iter (wpAny_call_entry slot_cb_iter hT entry_cb_iter ?_ (args_cb_iter _))
  change wpAny _ _ (ret (.ref it)) _ _ s
  exact wpAny_pure ⟨_, rfl, "itertools.combinations", _, hT, slot_cb_next.lookup, h⟩
/-- combinations(xs, r): xs is collected -/
theorem call_new {src : Addr} {T : String} {o : Obj} {its : Array Value} {m : Nat} {t : Tok} {Q : Value → Shared → Prop} (hT : T = "list" ∨ T = "tuple") (ho : s.heap.get? src = some o) (hc : o.cls = .type T) (hd : o.data = .seq its m) (hz : its.size ≤ 1000) (hr : r ≤ 1000)
    (h : ∀ nSame : Heap, (∀ b o, s.heap.get? b = some o → nSame.get? b = some o) → ∀ h' : Heap, At (nSame.objs.size + 1) nSame.objs.size its r 0 h' → (∀ b o, nSame.get? b = some o → h'.get? b = some o) → Q (.ref (nSame.objs.size + 1)) { s with heap := h' }) :
    wpAny (model prog w) A (call (.type "itertools.combinations") [.ref src, .int r t]) Q E s := by
  refine callType_new called_cb (by decide +kernel) (typeCall_cb _ _) (newCall_cb _ _) (fun ob => F.args_object_init_3 ob _ _) entry_cb_new (meets_cb_new (.ref src) r t hr) ?_
  intro prog' w' E'
  refine wpAny_collect_seq src hT ho hc hd (fun nSame kOld => ?_) (by have := sizeLine_eq; omega)
  refine ⟨by rw [Array.length_toList]; exact hz, ?_⟩
  have hp : (nSame.push (tupObj its)).get? nSame.objs.size = some (tupObj its) := Heap.get?_push_size _ rfl
  have hi : ((nSame.push (tupObj its)).push (cbObj nSame.objs.size (if r > its.size then 2 else 0) .none (List.range r))).get? (nSame.objs.size + 1) = some (cbObj nSame.objs.size (if r > its.size then 2 else 0) .none (List.range r)) := by
    have e : (nSame.push (tupObj its)).objs.size = nSame.objs.size + 1 := Heap.size_push ..
    rw [← e]
    exact Heap.get?_push_size _ rfl
  have ha : At (nSame.objs.size + 1) nSame.objs.size its r 0 ((nSame.push (tupObj its)).push (cbObj nSame.objs.size (if r > its.size then 2 else 0) .none (List.range r))) :=
    .start (Nat.ne_of_lt (Nat.lt_succ_self _)) (Heap.get?_push_of_some _ hp) hr hi
  have q := h nSame kOld _ ha fun b o e => Heap.get?_push_of_some _ (Heap.get?_push_of_some _ e)
  show _ ∧ _
  refine ⟨⟨cbObj nSame.objs.size (if r > its.size then 2 else 0) .none (List.range r), ?_, rfl⟩, ?_⟩
  · simp only [Array.length_toList, Array.toArray_toList]
    exact hi
  · simp only [Array.length_toList, Array.toArray_toList]
    exact q
/-- what was drawn so far: tuples that stand -/
def Got (S : Addr) (items : Array Value) (r i : Nat) (acc : Array Value) (h : Heap) : Prop :=
  acc.size = i ∧ ∀ (j : Nat) (v : Value), acc[j]? = some v → ∃ (T : Addr) (ix : List Nat), v = Value.ref T ∧ S < T ∧ (Mth.combIx items.size r)[j]? = some ix ∧ h.get? T = some (tupObj (picked items ix).toArray)
theorem got_nil {S : Addr} {items : Array Value} {r : Nat} {h : Heap} : Got S items r 0 #[] h := ⟨rfl, fun j v q => by simp at q⟩
theorem got_keep {items : Array Value} {r i : Nat} {acc : Array Value} {h h' : Heap} {S : Addr} (g : Got S items r i acc h) (hSl : ∃ c d, h.get? S = some { cls := .type "list", data := .seq c d }) (ltIt : ∃ vs, h.get? it = some { cls := .type "itertools.combinations", data := .fields vs }) (k : ∀ b o, b ≠ S → b ≠ it → h.get? b = some o → h'.get? b = some o) : Got S items r i acc h' :=
  ⟨g.1, fun j v q => by
    obtain ⟨T, ix, a, lt, b, c⟩ := g.2 j v q
    refine ⟨T, ix, a, lt, b, k T _ (fun z => ?_) (fun z => ?_) c⟩
    · obtain ⟨x, y, e⟩ := hSl
      rw [z, e] at c
      have := congrArg Obj.cls (Option.some.inj c)
      exact absurd this (by simp)
    · obtain ⟨x, e⟩ := ltIt
      rw [z, e] at c
      have := congrArg Obj.cls (Option.some.inj c)
      exact absurd this (by simp)⟩
end
section
variable {prog : Program} {w : World} {A : Around} {it pool S : Addr} {items : Array Value} {r : Nat} {R : Result → Shared → Prop} {res : Value}
theorem loop_ok (hHd : A.handled = none) (hn : (Mth.combIx items.size r).length ≤ 100000) (hS1 : S ≠ it) (hS2 : S ≠ pool) : ∀ (k i : Nat) (s : Shared) (acc : Array Value) (c : Nat), (Mth.combIx items.size r).length - i = k → i ≤ (Mth.combIx items.size r).length → At it pool items r i s.heap →
    s.heap.get? S = some { cls := .type "list", dict := none, data := .seq acc c, slots := #[] } → Got S items r i acc s.heap →
    (∀ h' acc' c', (∀ b o, b ≠ S → b ≠ it → s.heap.get? b = some o → h'.get? b = some o) → h'.get? S = some { cls := .type "list", dict := none, data := .seq acc' c', slots := #[] } → Got S items r (Mth.combIx items.size r).length acc' h' → R (.ok (.ret res)) { s with heap := h' }) →
    codeAny (model prog w) A (.builtin "list.extend.loop" ⟨[.ref S, .ref it, res], []⟩) R s := by
  intro k
  have hsl := sizeLine_eq
  induction k with
  | zero =>
    intro i s acc c hk hi ha hSl hg hR
    refine codeAny_builtin F.entry_extend_loop ?_; rw [Around.under_plainId F.plain_extend_loop _]; show wpAny _ A.in1 (pyNext (.ref it) >>= _) _ _ s
    have hii : ∃ vs, s.heap.get? it = some { cls := .type "itertools.combinations", data := .fields vs } := by
      obtain ⟨_, _, _, _, _, _, h4, _⟩ := ha
      exact ⟨_, h4⟩
    refine wpAny_bind (next_end (A := A.in1) hHd ha (by omega) fun h' hm => ?_)
    have e : i = (Mth.combIx items.size r).length := by omega
    refine wpAny_pure (hR h' acc c (fun b o _ hb q => hm b o hb q) (hm S _ hS1 hSl) ?_)
    rw [← e]
    exact got_keep hg ⟨_, _, hSl⟩ hii fun b o _ hb q => hm b o hb q
  | succ k ih =>
    intro i s acc c hk hi ha hSl hg hR
    have hlt : i < (Mth.combIx items.size r).length := by omega
    refine codeAny_builtin F.entry_extend_loop ?_; rw [Around.under_plainId F.plain_extend_loop _]; show wpAny _ A.in1 (pyNext (.ref it) >>= _) _ _ s
    have hii : ∃ vs, s.heap.get? it = some { cls := .type "itertools.combinations", data := .fields vs } := by
      obtain ⟨_, _, _, _, _, _, h4, _⟩ := ha
      exact ⟨_, h4⟩
    refine wpAny_bind (next_item (ix := (Mth.combIx items.size r)[i]) ha (by rw [List.getElem?_eq_getElem hlt]) fun h' ha' hT hm => ?_)
    have hS' := hm S _ hS1 hSl
    have hii' : ∃ vs, h'.get? it = some { cls := .type "itertools.combinations", data := .fields vs } := by
      obtain ⟨_, _, _, _, _, _, h4, _⟩ := ha'
      exact ⟨_, h4⟩
    have nST : S ≠ s.heap.objs.size := Nat.ne_of_lt (Heap.lt_size hSl)
    change wpAny _ A.in1 (updateSeq S (·.push (.ref s.heap.objs.size)) >>= _) _ _ _
    refine wpAny_bind ?_
    have upd_k : ∀ b o, b ≠ S → h'.get? b = some o → (h'.update S (Obj.mapSeq (·.push (.ref s.heap.objs.size)))).get? b = some o := fun b o hb q => (Heap.get?_update_other _ _ (Ne.symm hb)).trans q
    have hS2' := Heap.get?_update_self (Obj.mapSeq (·.push (.ref s.heap.objs.size))) hS' rfl
    refine wpAny_updateSeq hS' rfl (wpAny_pure ⟨plainId_quiet F.plain_extend_loop _, ih (i + 1) { s with heap := h'.update S (Obj.mapSeq (·.push (.ref s.heap.objs.size))) } (acc.push (.ref s.heap.objs.size)) _ (by omega) hlt ?_ hS2' ?_ fun h'' acc' c' k' hS'' hg' => ?_⟩)
      (by rw [hg.1]; omega) (by show (acc.push _).size ≤ sizeLine + 1; rw [Array.size_push, hg.1]; omega)
    · exact ha'.keep fun b hb o q => upd_k b o (by
        rcases List.mem_cons.mp hb with rfl | hb
        · exact Ne.symm hS1
        · rw [List.mem_singleton.mp hb]; exact Ne.symm hS2) q
    · have g1 : Got S items r i acc (h'.update S (Obj.mapSeq (·.push (.ref s.heap.objs.size)))) :=
        got_keep (it := it) (got_keep (it := it) (S := S) hg ⟨_, _, hSl⟩ hii fun b o _ hb q => hm b o hb q) ⟨_, _, hS'⟩ hii' fun b o hb _ q => upd_k b o hb q
      refine ⟨by rw [Array.size_push, g1.1], fun j v q => ?_⟩
      rw [Array.getElem?_push] at q
      split at q
      · rename_i e
        have e2 := Option.some.inj q
        rw [g1.1] at e
        refine ⟨_, (Mth.combIx items.size r)[i], e2.symm, Heap.lt_size hSl, by rw [e, List.getElem?_eq_getElem hlt], upd_k _ _ (Ne.symm nST) hT⟩
      · exact g1.2 j v q
    · refine hR h'' acc' c' (fun b o hb1 hb2 q => k' b o hb1 hb2 (upd_k b o hb1 (hm b o hb2 q))) hS'' hg'
end
theorem nolen_cb : typeLookup (.type "itertools.combinations") "__len__" = pure none := by rw [typeLookup_type, builtinLookup_eq_fast]; kernel_rfl
theorem nohint_cb : typeLookup (.type "itertools.combinations") "__length_hint__" = pure none := by rw [typeLookup_type, builtinLookup_eq_fast]; kernel_rfl
section
variable {prog : Program} {w : World} {A : Around} {E : Value → Shared → Prop} {s : Shared} {it pool : Addr} {items : Array Value} {r : Nat}
/-- list(it), it a fresh combinations -/
theorem call_list {Q : Value → Shared → Prop} (hHd : A.handled = none) (hn : (Mth.combIx items.size r).length ≤ 100000) (ha : At it pool items r 0 s.heap)
    (hGo : ∀ h' acc c, (∀ b o, b ≠ it → s.heap.get? b = some o → h'.get? b = some o) → h'.get? s.heap.objs.size = some { cls := .type "list", dict := none, data := .seq acc c, slots := #[] } → Got s.heap.objs.size items r (Mth.combIx items.size r).length acc h' → Q (.ref s.heap.objs.size) { s with heap := h' }) :
    wpAny (model prog w) A (call (.type "list") [.ref it]) Q E s := by
  have ltIt : it < s.heap.objs.size := by
    obtain ⟨_, _, _, _, _, _, h4, _⟩ := ha
    exact Heap.lt_size h4
  have ltPool : pool < s.heap.objs.size := Heap.lt_size ha.2.1
  refine callType_codes (Q₁ := fun ob sA => ob = .ref s.heap.objs.size ∧ sA = { s with heap := s.heap.push { cls := .type "list", data := .seq #[] } }) F.called_list (F.typeCall_list_1 _) F.entry_list_init
    (code_list_new _ ⟨rfl, rfl⟩) fun ob sA hh1 => ?_
  obtain ⟨rfl, rfl⟩ := hh1
  have hSl : (s.heap.push { cls := .type "list", data := .seq #[] }).get? s.heap.objs.size = some { cls := .type "list", data := .seq #[] } := Heap.get?_push_size _ rfl
  refine ⟨⟨_, hSl, rfl⟩, F.args_list_init_2 _ _, ?_⟩
  change wpAny _ A.in1.in1 (do let old ← Builtin.List.listItems (.ref s.heap.objs.size); Builtin.List.listUpdate (.ref s.heap.objs.size) (fun _ => #[]); letGo old.toList.reverse; Builtin.List.listExtendWith (.ref s.heap.objs.size) (.ref it) .none) _ _ _
  refine wpAny_bind ?_
  unfold Builtin.List.listItems; refine wpAny_bind (wpAny_seqItems hSl rfl (wpAny_pure ?_))
  change wpAny _ A.in1.in1 (updateSeq s.heap.objs.size (fun _ => #[]) >>= fun _ => letGo (#[] : Array Value).toList.reverse >>= fun _ => Builtin.List.listExtendWith (.ref s.heap.objs.size) (.ref it) .none) _ _ _
  refine wpAny_bind (wpAny_updateSeq hSl rfl ?_)
  have hSm := Heap.get?_update_self (Obj.mapSeq (fun _ => (#[] : Array Value))) hSl rfl
  refine wpAny_bind ?_; refine wpAny_letGo ?_
  have kOld : ∀ b o, b ≠ s.heap.objs.size → s.heap.get? b = some o → ((s.heap.push { cls := .type "list", data := .seq #[] }).update s.heap.objs.size (Obj.mapSeq (fun _ => (#[] : Array Value)))).get? b = some o :=
    fun b o hb e => (Heap.get?_update_other _ _ (Ne.symm hb)).trans (Heap.get?_push_of_some _ e)
  have ha1 : At it pool items r 0 ((s.heap.push { cls := .type "list", data := .seq #[] }).update s.heap.objs.size (Obj.mapSeq (fun _ => (#[] : Array Value)))) := ha.keep fun b hb o e => kOld b o (by
    rcases List.mem_cons.mp hb with rfl | hb
    · exact Nat.ne_of_lt ltIt
    · rw [List.mem_singleton.mp hb]; exact Nat.ne_of_lt ltPool) e
  generalize hg : ((s.heap.push { cls := .type "list", data := .seq #[] }).update s.heap.objs.size (Obj.mapSeq (fun _ => (#[] : Array Value)))) = g1 at hSm kOld ha1
  unfold Builtin.List.listExtendWith; refine wpAny_bind (wpAny_typeOf (T := "itertools.combinations") (At.typeIs (s := { s with heap := g1 }) ha1) ?_)
  have hSI : s.heap.objs.size ≠ it := Nat.ne_of_gt ltIt
  have nSame : Builtin.List.listSameRef (.ref s.heap.objs.size) (.ref it) = false := by simp [Builtin.List.listSameRef, hSI]
  have nList : (Value.type "itertools.combinations" == Value.type "list") = false := by decide
  have nTup : (Value.type "itertools.combinations" == Value.type "tuple") = false := by decide
  simp only [nSame, nList, nTup, Bool.false_eq_true, Bool.or_false, if_false]
  refine wpAny_bind (self_iter (s := { s with heap := g1 }) ha1 ?_)
  refine wpAny_bind (wpAny_holding ?_); unfold Builtin.List.listLengthHint
  refine wpAny_bind (wpAny_specialOf (At.typeIs (s := { s with heap := g1 }) ha1) nolen_cb ?_)
  change wpAny _ A.in1.in1 (specialOf (Value.ref it) (Str.ofString "__length_hint__") >>= _) _ _ _
  refine wpAny_bind (wpAny_specialOf (At.typeIs (s := { s with heap := g1 }) ha1) nohint_cb ?_)
  refine wpAny_pure ?_
  change wpAny _ A.in1.in1 (rule "list.extend.makes-room" >>= fun _ => Builtin.List.listTouch (.ref s.heap.objs.size) >>= fun _ =>
    again (.builtin "list.extend.loop" ⟨[.ref s.heap.objs.size, .ref it, .none], []⟩)) _ _ _
  refine wpAny_bind (wpAny_rule ?_)
  refine wpAny_bind ?_
  change wpAny _ A.in1.in1 (updateSeq s.heap.objs.size (·.push .none) >>= fun _ => updateSeq s.heap.objs.size (·.pop)) _ _ _
  have hS3 : g1.get? s.heap.objs.size = some { cls := .type "list", dict := none, data := .seq #[] 1, slots := #[] } ∨ ∃ c, g1.get? s.heap.objs.size = some { cls := .type "list", dict := none, data := .seq #[] c, slots := #[] } := .inr ⟨_, hSm⟩
  obtain ⟨c1, hS4⟩ : ∃ c, g1.get? s.heap.objs.size = some { cls := .type "list", dict := none, data := .seq #[] c, slots := #[] } := ⟨_, hSm⟩
  refine wpAny_bind (wpAny_updateSeq hS4 rfl ?_)
  have hS5 := Heap.get?_update_self (Obj.mapSeq (·.push Value.none)) hS4 rfl
  refine wpAny_updateSeq (hz := by seq_fits) hS5 rfl ?_
  have hS6 := Heap.get?_update_self (Obj.mapSeq (·.pop)) hS5 rfl
  have oth : ∀ b o, b ≠ s.heap.objs.size → g1.get? b = some o → ((g1.update s.heap.objs.size (Obj.mapSeq (·.push Value.none))).update s.heap.objs.size (Obj.mapSeq (·.pop))).get? b = some o :=
    fun b o nb e => (Heap.get?_update_other _ _ (Ne.symm nb)).trans ((Heap.get?_update_other _ _ (Ne.symm nb)).trans e)
  refine wpAny_pure ⟨plainId_quiet F.plain_extend_loop _, loop_ok (A := A.in1) (S := s.heap.objs.size) (pool := pool) hHd hn hSI (Nat.ne_of_gt ltPool) _ 0 _ _ _ rfl (Nat.zero_le _) (ha1.keep fun b hb o e => oth b o (by
    rcases List.mem_cons.mp hb with rfl | hb
    · exact Nat.ne_of_lt ltIt
    · rw [List.mem_singleton.mp hb]; exact Nat.ne_of_lt ltPool) e) hS6 got_nil fun h' acc c kk hS' hgot => ?_⟩
  refine ⟨rfl, hGo h' acc c (fun b o hb e => ?_) hS' hgot⟩
  have hbs : b ≠ s.heap.objs.size := Nat.ne_of_lt (Heap.lt_size e)
  exact kk b o hbs hb (oth b o hbs (kOld b o hbs e))
end
end Cb
end

section
set_option Elab.async false
set_option linter.all false
set_option maxRecDepth 100000
set_option maxHeartbeats 2000000
namespace Cb
open PySem PySem.Spec PyProof.Rows L2
section
variable {X : Cx} {pins : List (Addr × Obj)} {σ : L2.St} {H H' : Hp} {s : Shared} {h' : Heap}
/-- records of ours have turned, and nwo objects are tracked -/
theorem turnedMany {t' : Nat} {ch : List Addr} (I : Inv X pins σ H s) (k : ∀ b o, b ∉ ch → s.heap.get? b = some o → h'.get? b = some o) (hfp : ∀ b ∈ ch, FpOk X pins H b) (old : ∀ b u, H b = some u → H' b = some u)
    (nwn : ∀ b, b < s.heap.objs.size → H b = none → H' b = none) (nwo : ∀ b o, H' b = some o → H b = none → ObjOk X.prog X.w H' h' b o) : Inv X pins σ H' { s with heap := h', toks := t' } := by
  have offI : ∀ b u, H b = some u → b ∉ ch := fun b u e z => by
    have q := (hfp b z).1
    rw [q] at e; cases e
  refine I.step (g' := s.gens) (d' := s.drawn) (ch := ch) (fun b hb => ⟨(hfp b hb).2.2.2.1, (hfp b hb).2.1, (hfp b hb).2.2.2.2.1, (hfp b hb).2.2.2.2.2⟩) (fun b o _ _ hc e _ => k b o hc e) (fun b o _ _ hc e _ => ⟨o.slots, k b o hc e⟩)
    (fun b o _ e n => nwn b (Heap.lt_size e) n) (fun b o hc e => ⟨o, k b o hc e⟩) (fun b xs e => old b _ e) (fun b o u e => old b _ e) (fun b ps e => ⟨#[], by rw [old b _ e]; simp⟩) (fun m hmm => ?_) (fun b u e => ?_) I.bare
  · obtain ⟨o, es, ep, ho, r⟩ := hmm
    exact ⟨o, es, ep, k _ o (fun z => (hfp _ z).2.1 rfl) ho, r⟩
  · cases q : H b with
    | none => exact nwo b u e q
    | some v =>
      have e2 := old b v q
      rw [e] at e2
      have e3 := Option.some.inj e2
      subst e3
      refine (I.hok b u q).stay (fun c v hc q1 => k c v ?_ q1) (fun c q => old c _ q) fun c xs q => old c _ q
      rcases hc with z | z
      · rw [z]; exact offI b u q
      · exact offI c _ z
theorem vals_getD {xs : List V} {its : List Value} (r : Vals xs its) (i : Nat) : RelV (xs.getD i .non) (its.toArray.getD i .none) := by
  have e : its.toArray.getD i .none = its.getD i .none := by
    rw [List.getD_eq_getElem?_getD, Array.getD_eq_getD_getElem?]
    simp
  rw [e, List.getD_eq_getElem?_getD, List.getD_eq_getElem?_getD]
  cases q : xs[i]? with
  | none => rw [r.none_of q]; rfl
  | some x =>
    obtain ⟨u, hu, ru⟩ := r.get q
    rw [hu]; exact ru
theorem vals_pick {xs : List V} {its : List Value} (r : Vals xs its) : ∀ ix : List Nat, Vals (Mth.pick xs .non ix) (picked its.toArray ix)
  | [] => .nil
  | i :: ix => .cons (vals_getD r i) (vals_pick r ix)
theorem comb_at {xs : List V} {r i : Nat} {ix : List Nat} (h : (Mth.combIx xs.length r)[i]? = some ix) : (Mth.combs r xs)[i]? = some (Mth.pick xs .non ix) := by
  rw [← Mth.pick_combs .non xs r, List.getElem?_map, h]
  rfl
theorem comb_len (xs : List V) (r : Nat) : (Mth.combs r xs).length = (Mth.combIx xs.length r).length := by
  rw [← Mth.pick_combs .non xs r, List.length_map]
theorem ix_len {n r : Nat} {ix : List Nat} (h : ix ∈ Mth.combIx n r) : ix.length = r := (Mth.mem_combs.mp h).2
end

/-- what a walk over combinations(xs, r) gives: nwo tuples -/
def Itcb (r : Nat) (xs : List V) : It :=
  ⟨fun i _ => i < (Mth.combs r xs).length, fun i H v H' => ∃ T ys, v = .ref T ∧ H T = none ∧ (Mth.combs r xs)[i]? = some ys ∧ H' = upd H T (.tup ys), fun i _ => (Mth.combs r xs).length ≤ i⟩
theorem turn_comb {P : Program} {w : World} {K : PySem.W.Frag} {tg : Expr} (it pool : Addr) (xs : List V) (its : List Value) (r : Nat) (rv : Vals xs its) (hr : r ≤ 1000) :
    Turn P w K tg (Itcb r xs) [it, pool] it (fun i h => At it pool its.toArray r i h) where
  mem := by simp
  obj := fun i h st b hb => by
    obtain ⟨h1, h2, h3, z, old, ix, h4, h5⟩ := st
    rcases List.mem_cons.mp hb with rfl | hb
    · exact ⟨_, h4, fun v q => by cases q⟩
    · rw [List.mem_singleton.mp hb]; exact ⟨_, h2, fun v q => by cases q⟩
  keep := fun i h h' st k => st.keep k
  item := by
    intro X hP hw hK hc i pins s σ H E I hfp st hg
    subst hP hw hK
    have hsz : its.toArray.size = xs.length := by rw [List.size_toArray]; exact rv.length.symm
    have hlt : i < (Mth.combIx its.toArray.size r).length := by
      rw [hsz, ← comb_len]; exact hg
    have hx : (Mth.combIx its.toArray.size r)[i]? = some (Mth.combIx its.toArray.size r)[i] := List.getElem?_eq_getElem hlt
    have hil : it < s.heap.objs.size := by
      obtain ⟨_, _, _, _, _, _, h4, _⟩ := st
      exact Heap.lt_size h4
    have hpl : pool < s.heap.objs.size := Heap.lt_size st.2.1
    refine next_item st hx fun h' st' hT hk => ⟨_, rfl, ?_⟩
    generalize (Mth.combIx its.toArray.size r)[i] = ix at hx hT
    obtain ⟨g1, g2, g3, z, old, jx, g4, g5⟩ := id st'
    refine go_of g4 rfl rfl (by decide) ?_
    have lenx : ix.length = r := ix_len (List.mem_of_getElem? hx)
    have nwo : ObjOk X.prog X.w (upd H s.heap.objs.size (.tup (Mth.pick xs .non ix))) h' s.heap.objs.size (.tup (Mth.pick xs .non ix)) :=
      ⟨by rw [Mth.pick_length, lenx]; have := sizeLine_eq; omega, _, vals_pick rv ix, ⟨_, hT, rfl, _, rfl⟩⟩
    have I1 : Inv X pins σ (upd H s.heap.objs.size (.tup (Mth.pick xs .non ix))) { s with heap := h' } :=
      I.turnedNew (t' := s.toks) (ch := [it]) (fun b ob hb q => hk b ob (fun z => hb (by simp [z])) q) (fun b hb => hfp b (by rw [List.mem_singleton.mp hb]; simp)) (Nat.le_refl _) nwo
    rw [hsz] at hx
    refine ⟨.ref s.heap.objs.size, _, I1, rfl, ⟨_, _, rfl, I.hok.fresh (Nat.le_refl _), comb_at hx, rfl⟩, st', fun b hb => ?_⟩
    have hb' : b < s.heap.objs.size := by
      rcases List.mem_cons.mp hb with rfl | hb
      · exact hil
      · rw [List.mem_singleton.mp hb]; exact hpl
    rw [upd_ne (Nat.ne_of_lt hb')]
    exact (hfp b hb).1
  done := by
    intro X hP hw hK hc i pins s σ H E I hfp st hg
    subst hP hw hK
    have hsz : its.toArray.size = xs.length := by rw [List.size_toArray]; exact rv.length.symm
    obtain ⟨f0, f1, f2, f3, f4, f5⟩ := hfp it (by simp)
    have hl : (Mth.combIx its.toArray.size r).length ≤ i := by rw [hsz, ← comb_len]; exact hg
    exact next_end (I.ok.hd hc) st hl fun h' eb => ⟨rfl, I.turned (t' := s.toks) (fun b o hb q => eb b o hb q) f0 f1 f3 f4 f5⟩
  self := fun A i s Q E st h => self_iter st h

theorem walk_comb {xs : List V} {r : Nat} : Walk (Itcb r xs) (Mth.combs r xs).length (fun _ => True) (fun i H v H' => ∃ T ys, v = .ref T ∧ H T = none ∧ (Mth.combs r xs)[i]? = some ys ∧ H' = upd H T (.tup ys)) :=
  ⟨fun _ _ hi _ => hi, fun _ _ => Nat.le_refl _, fun _ _ _ _ _ _ y => y⟩
/-- combinations(xs, r): xs a list or a tuple -/
def iComb (K : PySem.W.Frag) (ta : TA) : TI := fun σ H R => ta σ H fun vs H1 => ∃ (a : Addr) (xs : List V) (r : Nat), vs = [.ref a, .int r] ∧ (SqL K H1 a xs ∨ SqT K H1 a xs) ∧ xs.length ≤ 1000 ∧ r ≤ 1000 ∧ R (Itcb r xs) H1
section
variable {X : Cx} {pins : List (Addr × Obj)} {σ : L2.St} {H : Hp} {s : Shared}
/-- the making, over the layer -/
theorem make_comb {a : Addr} {xs : List V} {r : Nat} {t : Tok} {Q : Value → Shared → Prop} {E : Value → Shared → Prop} (I : Inv X pins σ H s) (hs : SqL X.K H a xs ∨ SqT X.K H a xs) (hl : xs.length ≤ 1000) (hr : r ≤ 1000)
    (h : ∀ (it pool : Addr) (its : List Value) (h' : Heap), Inv X pins σ H { s with heap := h' } → Vals xs its → At it pool its.toArray r 0 h' → FpOk X pins H it → FpOk X pins H pool → Q (.ref it) { s with heap := h' }) :
    wpAny (model X.prog X.w) X.A (call (.type "itertools.combinations") [.ref a, .int r t]) Q E s := by
  have fin : ∀ (its : List Value), Vals xs its → ∀ h1 : Heap, (∀ b o, s.heap.get? b = some o → h1.get? b = some o) → ∀ h' : Heap, At (h1.objs.size + 1) h1.objs.size its.toArray r 0 h' → (∀ b o, h1.get? b = some o → h'.get? b = some o) → Q (.ref (h1.objs.size + 1)) { s with heap := h' } := by
    intro its rv h1 k1 h' ha k2
    have I1 : Inv X pins σ H { s with heap := h1 } := I.kept (t' := s.toks) k1
    have I2 : Inv X pins σ H { s with heap := h' } := I1.kept (t' := s.toks) k2
    exact h _ _ its h' I2 rv ha (I1.fpOk (Nat.le_succ _) (I1.hok.fresh (Nat.le_succ _))) (I1.fpOk (Nat.le_refl _) (I1.hok.fresh (Nat.le_refl _)))
  rcases hs with hs | hs
  · obtain ⟨its, rv, pl, hz⟩ := I.list hs
    obtain ⟨o, ho, hc, n, hd⟩ := pl.isList
    exact call_new (.inl rfl) ho hc hd (by rw [List.size_toArray, ← rv.length]; exact hl) hr (fin its rv)
  · obtain ⟨its, rv, pl, hz⟩ := I.tuple hs
    obtain ⟨o, ho, hc, n, hd⟩ := pl
    exact call_new (.inr rfl) ho hc hd (by rw [List.size_toArray, ← rv.length]; exact hl) hr (fin its rv)
theorem pi_comb {tg a b : Expr} {ta : TA} {p pos : Pos} (hg : Gl X "combinations") (hmm : X.mg "combinations" = some (.type "itertools.combinations")) (ha : PA X [a, b] ta)
    (hs : starEach [a, b] X.env = [(false, eval a X.env), (false, eval b X.env)] := by rfl) (hs2 : starEach [b] X.env = [(false, eval b X.env)] := by rfl) :
    PI X tg (.Call (.Name "combinations" p) [a, b] [] pos) (iComb X.K ta) := by
  refine ⟨fun pins s σ H R I h => ?_⟩
  refine Call_ (ld_glob I hg hmm (PyProof.Rows.callWith_type1 (thn (ha.run pos pins s σ H _ I h) fun us s1 ⟨vs, H1, I1, r1, q1⟩ => ?_) (by rw [hs, hs2]) (by rw [hs2]; rfl)))
  obtain ⟨ad, xs, r, e, hq, hl, hr, q⟩ := q1
  subst e
  cases r1 with
  | cons ra rr =>
    cases rr with
    | cons rb rr =>
      cases rr
      cases ra
      obtain ⟨t, rfl⟩ := rb
      refine make_comb I1 hq hl hr fun it pool its h' I2 rv hat f1 f2 => ?_
      refine self_iter (s := { s1 with heap := h' }) hat ?_
      refine ⟨it, [it, pool], _, _, H1, rfl, I2, turn_comb it pool xs its r rv hr, hat, fun c hc => ?_, q⟩
      rcases List.mem_cons.mp hc with rfl | hc
      · exact f1
      · rw [List.mem_singleton.mp hc]; exact f2
end

def addrOf : Value → Addr
  | .ref a => a
  | _ => 0
/-- list(combinations(xs, r)): a nwo list of nwo tuples -/
def tListComb (K : PySem.W.Frag) (ta : TA) : TE := fun σ H Q => ta σ H fun vs H1 => ∃ (a : Addr) (xs : List V) (r : Nat), vs = [.ref a, .int r] ∧ (SqL K H1 a xs ∨ SqT K H1 a xs) ∧ xs.length ≤ 1000 ∧ r ≤ 1000 ∧ (Mth.combs r xs).length ≤ 100000 ∧
  ∀ (H' : Hp) (l : Addr) (Ts : List Addr), (∀ b o, H1 b = some o → H' b = some o) → H1 l = none → H' l = some (.lst (Ts.map V.ref)) → Paired (fun T ys => H' T = some (.tup ys)) Ts (Mth.combs r xs) → Q (.ref l) H'
section
variable {X : Cx} {pins : List (Addr × Obj)} {σ : L2.St} {H : Hp} {s : Shared}
theorem paired_of {α β : Type} {F : α → β → Prop} : ∀ {l : List α} {m : List β}, l.length = m.length → (∀ (i : Nat) (a : α) (b : β), l[i]? = some a → m[i]? = some b → F a b) → Paired F l m
  | [], [], _, _ => .nil
  | [], _ :: _, h, _ => by cases h
  | _ :: _, [], h, _ => by cases h
  | a :: l, b :: m, h, k => .cons (k 0 a b rfl rfl) (paired_of (by simpa using h) fun i x y h1 h2 => k (i + 1) x y (by simpa using h1) (by simpa using h2))
theorem list_comb {it pool : Addr} {xs : List V} {its : List Value} {r : Nat} {Q : VK} (hc : X.calm = true) (I : Inv X pins σ H s) (rv : Vals xs its) (ha : At it pool its.toArray r 0 s.heap) (f1 : FpOk X pins H it) (hr : r ≤ 1000) (hn : (Mth.combs r xs).length ≤ 100000)
    (q : ∀ (H' : Hp) (l : Addr) (Ts : List Addr), (∀ b o, H b = some o → H' b = some o) → H l = none → H' l = some (.lst (Ts.map V.ref)) → Paired (fun T ys => H' T = some (.tup ys)) Ts (Mth.combs r xs) → Q (.ref l) H') :
    wpAny (model X.prog X.w) X.A (call (.type "list") [.ref it]) (EP X pins σ Q) X.xe s := by
  have hsz : its.toArray.size = xs.length := by rw [List.size_toArray]; exact rv.length.symm
  have hsl := sizeLine_eq
  refine call_list (I.ok.hd hc) (by rw [hsz, ← comb_len]; exact hn) ha fun h' acc c kk hS hg => ?_
  rw [hsz] at hg
  -- what is nwo
  let D : Addr → List V → Prop := fun b ys => ∃ (j : Nat) (ix : List Nat), acc[j]? = some (.ref b) ∧ (Mth.combIx xs.length r)[j]? = some ix ∧ ys = Mth.pick xs .non ix
  have dT : ∀ {b : Addr} {ys : List V}, D b ys → s.heap.objs.size < b ∧ ∃ us, Vals ys us ∧ h'.get? b = some (tupObj us.toArray) ∧ ys.length ≤ sizeLine := by
    rintro b ys ⟨j, ix, hj, hx, rfl⟩
    obtain ⟨T, jx, e1, lt, e2, e3⟩ := hg.2 j _ hj
    have e4 := Value.ref.inj e1
    subst e4
    rw [hsz, hx] at e2
    have e5 := Option.some.inj e2
    subst e5
    refine ⟨lt, _, vals_pick rv ix, e3, ?_⟩
    rw [Mth.pick_length, ix_len (List.mem_of_getElem? hx)]
    omega
  have dU : ∀ {b : Addr} {ys zs : List V}, D b ys → D b zs → ys = zs := by
    intro b ys zs h1 h2
    obtain ⟨_, us, r1, e1, _⟩ := dT h1
    obtain ⟨_, ws, r2, e2, _⟩ := dT h2
    rw [e1] at e2
    have e3 : us.toArray = ws.toArray := by
      have := Option.some.inj e2
      injection this with _ _ e4 _
      injection e4
    have e4 : us = ws := by simpa using e3
    rw [e4] at r1
    exact r1.inj r2
  classical
  let H' : Hp := fun b => if b = s.heap.objs.size then some (.lst ((acc.toList.map addrOf).map V.ref)) else if hd : ∃ ys, D b ys then some (.tup (Classical.choose hd)) else H b
  have atl : H' s.heap.objs.size = some (.lst ((acc.toList.map addrOf).map V.ref)) := if_pos rfl
  have atT : ∀ {b : Addr} {ys : List V}, D b ys → H' b = some (.tup ys) := by
    intro b ys hd
    have ne : b ≠ s.heap.objs.size := Nat.ne_of_gt (dT hd).1
    show (if b = s.heap.objs.size then _ else if hd : ∃ ys, D b ys then some (HO.tup (Classical.choose hd)) else H b) = _
    rw [if_neg ne, dif_pos ⟨ys, hd⟩, dU (Classical.choose_spec (⟨ys, hd⟩ : ∃ ys, D b ys)) hd]
  have atO : ∀ {b : Addr}, b < s.heap.objs.size → H' b = H b := by
    intro b hb
    show (if b = s.heap.objs.size then _ else if hd : ∃ ys, D b ys then some (HO.tup (Classical.choose hd)) else H b) = _
    rw [if_neg (Nat.ne_of_lt hb), dif_neg (fun ⟨ys, hd⟩ => absurd (dT hd).1 (Nat.not_lt_of_lt hb))]
  have sm : ∀ b o, H b = some o → H' b = some o := fun b o e => by rw [atO (I.hok.lt e)]; exact e
  have refs : Vals ((acc.toList.map addrOf).map V.ref) acc.toList := by
    refine paired_of (by simp) fun i a b h1 h2 => ?_
    have h3 : acc[i]? = some b := by simpa using h2
    obtain ⟨T, ix, e1, _⟩ := hg.2 i b h3
    rw [List.getElem?_map, List.getElem?_map, h2] at h1
    have h4 := Option.some.inj h1
    rw [e1] at h4 ⊢
    rw [← h4]
    rfl
  have I2 : Inv X pins σ H' { s with heap := h' } := turnedMany (t' := s.toks) (ch := [it]) I (fun b o hb e => kk b o (fun z => hb (by simp [z])) e) (fun b hb => by rw [List.mem_singleton.mp hb]; exact f1) sm (fun b hb e => by rw [atO hb]; exact e) fun b o e n => by
    by_cases hb : b = s.heap.objs.size
    · subst hb
      rw [atl] at e
      have e2 := Option.some.inj e
      subst e2
      refine ⟨?_, acc.toList, c, refs, ?_⟩
      · rw [List.length_map, List.length_map, Array.length_toList, hg.1, ← comb_len]; omega
      · rw [Array.toArray_toList]; exact hS
    · by_cases hd : ∃ ys, D b ys
      · obtain ⟨ys, hd⟩ := hd
        rw [atT hd] at e
        have e2 := Option.some.inj e
        subst e2
        obtain ⟨_, us, r1, e1, hl⟩ := dT hd
        exact ⟨hl, us, r1, ⟨_, e1, rfl, _, rfl⟩⟩
      · have e3 : H' b = H b := by
          show (if b = s.heap.objs.size then _ else if hd : ∃ ys, D b ys then some (HO.tup (Classical.choose hd)) else H b) = _
          rw [if_neg hb, dif_neg hd]
        rw [e3, n] at e
        cases e
  refine ⟨.ref s.heap.objs.size, H', I2, rfl, q H' _ _ sm (I.hok.fresh (Nat.le_refl _)) atl ?_⟩
  refine paired_of (by rw [List.length_map, Array.length_toList, hg.1, ← comb_len]) fun i a b h1 h2 => ?_
  rw [List.getElem?_map] at h1
  cases h3 : acc.toList[i]? with
  | none => rw [h3] at h1; cases h1
  | some v =>
    rw [h3] at h1
    have h4 := Option.some.inj h1
    have h5 : acc[i]? = some v := by simpa using h3
    obtain ⟨T, ix, e1, _, e2, _⟩ := hg.2 i v h5
    rw [hsz] at e2
    subst e1
    have e4 : T = a := h4
    subst e4
    rw [comb_at e2] at h2
    exact atT ⟨i, ix, h5, e2, (Option.some.inj h2).symm⟩
theorem pe_listComb {a b : Expr} {ta : TA} {p p2 pos pos2 : PySem.Pos} (hc : X.calm = true) (hgl : Gl X "list") (hml : X.mg "list" = none) (hg : Gl X "combinations") (hmm : X.mg "combinations" = some (.type "itertools.combinations")) (ha : PA X [a, b] ta)
    (hst : starEach [.Call (.Name "combinations" p2) [a, b] [] pos2] X.env = (false, eval (.Call (.Name "combinations" p2) [a, b] [] pos2) X.env) :: starEach [] X.env := by rfl) (hpl : (backTo pos (starEach [] X.env)).any (·.1) = false := by rfl)
    (hs : starEach [a, b] X.env = [(false, eval a X.env), (false, eval b X.env)] := by rfl) (hs2 : starEach [b] X.env = [(false, eval b X.env)] := by rfl) :
    PE X (.Call (.Name "list" p) [.Call (.Name "combinations" p2) [a, b] [] pos2] [] pos) (tListComb X.K ta) := by
  refine ⟨fun pins s σ H Q I h => ?_⟩
  refine wpAny_Call_Name_kw (ld_blt I hgl hml boot_list ?_)
  refine PyProof.Rows.callWith_type1 ?_ hst hpl
  rw [hst]
  show wpAny _ _ (spliced ((false, eval (.Call (.Name "combinations" p2) [a, b] [] pos2) X.env) :: backTo pos (starEach [] X.env))) _ _ s
  refine Calls.spliced_cons ?_
  refine wpAny_Call_Name_kw (ld_glob I hg hmm (PyProof.Rows.callWith_type1 (thn (ha.run pos2 pins s σ H _ I h) fun us s1 ⟨vs, H1, I1, r1, q1⟩ => ?_) (by rw [hs, hs2]) (by rw [hs2]; rfl)))
  obtain ⟨ad, xs, r, e, hq, hl, hr, hn, q⟩ := q1
  subst e
  cases r1 with
  | cons ra rr =>
    cases rr with
    | cons rb rr =>
      cases rr
      cases ra
      obtain ⟨t, rfl⟩ := rb
      refine make_comb I1 hq hl hr fun it pool its h' I2 rv hat f1 f2 => ?_
      refine Calls.spliced_nil ?_
      exact list_comb hc I2 rv hat f1 hr hn q
end
end Cb
end

section
set_option Elab.async false
set_option linter.all false
set_option maxRecDepth 100000
set_option maxHeartbeats 2000000
/-! TooMany(most): super().__init__(most); self.most = most -/
namespace Tm
open PySem PySem.W PySem.Calls PyProof.Rows PySem.HandSPX L2
def top (i : Nat) : Stmt := PySem.Challenge.pw_lightfirst_k63_whole_lightest_safe_lots.main.body.getD i (.Pass ⟨0, 0, 0, 0⟩)
abbrev sTm : Stmt := inClass (top 11) 0
def tArgs : Arguments := defArgs sTm
def tBody : List Stmt := defBody sTm
def tScope : Scope := defScope sTm
abbrev tFn (kV doc pm : Value) (an : Option Addr) (cdv ct : Value) (cc : Addr) : FuncData := ksFn "__init__" "TooMany.__init__" tArgs tBody tScope .none kV doc pm an cdv ct cc
/-- what the written part says of the class at C, of its __init__ at fI -/
structure Txt (prog : Program) (K : Frag) (mg : Str → Option Value) (C fI : Addr) : Prop where
  gC : mg "TooMany" = some (.ref C)
  cls : ∃ nm q N bs bm sn sub ab col dd k0 k1 k2 k3 k5, K.lookup C = some (excClassObj nm q C N bs bm true sn sub ab col dd k0 k1 k2 k3 k5 "ValueError.__new__") ∧ refsVE bm = true
  sa : findIn K (.ref C) "__setattr__" = some (some (.builtin "object.__setattr__"))
  noN : findIn K (.ref C) "most" = some none
  iC : findIn K (.ref C) "__init__" = some (some (.ref fI))
  tC : typeIn K (.ref fI) = some (.type "function")
  kC : keepIn K (.ref C) = true
  exC : subIn K (.ref C) (.type "BaseException") = some true
  tyC : typeIn K (.ref C) = some (.type "type")
  veC : subIn K (.ref C) (.type "ValueError") = some true
  mroC : mroIn K C (.ref C) = some true
  sup : ks_superIn K C C "__init__" = some (some (.builtin "ValueError.__init__"))
  opq : nsIn K cStatics "thirdparty.any" = some none
  gS : mg "super" = none
  fn : ∃ (oc kV doc pm ct : Value) (od an : Option Addr) (cda cc : Addr) (osl : Array (Option Value)), K.lookup fI = some ⟨oc, od, .func (tFn kV doc pm an (.ref cda) ct cc), osl⟩ ∧ codeIn K (.ref cda) "TooMany.__init__" = true ∧
    (∃ (ccl : Value) (cdd : Option Addr) (vs : Array Value) (ccs : Array (Option Value)) (file : Str) (tf : Tok), K.lookup cda = some ⟨ccl, cdd, .fields vs, ccs⟩ ∧ vs[2]? = some (.str file tf) ∧ ((prog.main.file : Str) == file) = true) ∧
    (∃ (cl : Value) (cld : Option Addr) (csl : Array (Option Value)), K.lookup cc = some ⟨cl, cld, .cell (some (.ref C)), csl⟩)
  topS : (prog.main.scope.names.lookup ("super" : Str)).isSome = false
/-- what __init__ leaves of a fresh exception at x -/
structure InitEnd (h h' : Heap) (x C dx : Addr) (v : Value) : Prop where
  keep : ∀ b o, b ≠ x → h.get? b = some o → h'.get? b = some o
  obj : ∃ t1, h'.get? x = some { cls := .ref C, dict := some dx, data := .fields #[.ref t1, .none, .none, .none, .bool false, .none] }
  dbig : h.objs.size ≤ dx
  dne : dx ≠ x
  ns : h'.Ns1 dx (fun y => if y = "most" then some v else none)
theorem one_size (v : Value) : [v].length ≤ sizeLine := by
  rw [sizeLine_eq]
  exact (by decide : 1 ≤ 16777216)
section
variable {prog : Program} {w : World} {A : Around} {E : Value → Shared → Prop} {R : Result → Shared → Prop} {s : Shared} {K : Frag} {mg mb : Str → Option Value} {C fI : Addr}
/-- the bound ValueError.__init__ called -/
theorem call_mw (T : Txt prog K mg C fI) {u x t0 : Addr} {v : Value} {Q : Value → Shared → Prop} (X : K.In s.heap) (hu : s.heap.get? u = some (kxs_mw "ValueError.__init__" x)) (hx : s.heap.get? x = some (excO C t0))
    (h : ∀ h' t1, (∀ b o, b ≠ x → s.heap.get? b = some o → h'.get? b = some o) → h'.get? x = some (excO C t1) → Q .none { s with heap := h' }) : wpAny (model prog w) A (call (.ref u) [v]) Q E s := by
  obtain ⟨nm, q, N, bs, bm, sn, sub, ab, col, dd, k0, k1, k2, k3, k5, hC, hbm⟩ := T.cls
  have hC' := X _ _ hC
  obtain ⟨hh, g, d, tk, os⟩ := s
  refine wpAny_call (codeAny_of_tree ?_)
  show wpAny _ A.in1 (callAny (.ref u) ⟨[v], []⟩) _ _ _
  simp only [callAny]
  refine wpAny_bind (wpAny_load hu ?_)
  simp only [kxs_mw, show (Value.type "method-wrapper" == Value.type "method" || Value.type "method-wrapper" == Value.type "builtin_function_or_method" || Value.type "method-wrapper" == Value.type "method-wrapper") = true by decide, if_true]
  refine KFB.if_so (by decide) ?_
  refine wpAny_bind (check_bound_init PySem.F.excBase_ValueError.toExcCallFacts hC' hx rfl ?_)
  refine wpAny_bind (wpAny_pure (wpAny_pure ?_))
  refine ⟨plainId_quiet PySem.F.excBase_ValueError.init.plain _, codeAny_builtin PySem.F.excBase_ValueError.initEntry ?_⟩
  exact exc_init_tree (cls := .ref C) (t0 := t0) (dv := none) (c2 := .none) (c3 := .none) (b4 := .bool false) hx (one_size v) fun h' k e t' => h h' _ k e
theorem tS_cell : ∀ y ∈ tScope.names, y.2 ≠ .cell := by decide +kernel
theorem tS_self : tScope.names.lookup ("self" : Str) = some .local := by decide +kernel
theorem tS_most : tScope.names.lookup ("most" : Str) = some .local := by decide +kernel
theorem tS_super : tScope.names.lookup ("super" : Str) = some .globalImplicit := by decide +kernel
theorem tS_class : tScope.names.lookup ("__class__" : Str) = some .free := by decide +kernel
theorem tS_kind : tScope.kind = .function := by decide +kernel
theorem tS_co : tScope.isCoroutine = false := by decide +kernel
theorem tS_gen : tScope.isGenerator = false := by decide +kernel
theorem ldAt {env : Env} {m : Str → Option Value} {x : Str} {pos : PySem.Pos} {v : Value} {Q : Value → Shared → Prop} (hn : s.heap.Ns env.locals m) (hv : m x = some v) (h : Q v s)
    (hk : env.scope.kind = .function := by rfl) (hl : env.kindOf x = some .local := by rfl) (hd : (x == ("__debug__" : Str)) = false := by decide) :
    wpAny (model prog w) A (eval (.Name x pos) env) Q E s := wpAny_Name (wpAny_loadName_local hk hl hn hv h) hd
theorem tm_init (T : Txt prog K mg C fI) {x t0 : Addr} {v : Value} (X : K.In s.heap) (hlim : s.heap.NoLimit) (hG : s.heap.Ns mainGlobals mg) (hB : s.heap.Ns builtinsNs mb) (hbb : ∀ x : Str, x ≠ "__name__" → mb x = bootBuiltins x)
    (hx : s.heap.get? x = some (excO C t0)) (hnx : K.lookup x = none) (hroom : A.depth < recursionLimit)
    (hq : ∀ h' tk dx, InitEnd s.heap h' x C dx v → R (.ok (.ret .none)) { s with heap := h', toks := tk }) :
    codeAny (model prog w) A (.call (.ref fI) ⟨[.ref x, v], []⟩) R s := by
  obtain ⟨oc, kV, doc, pm, ct, od, an, cda, cc, osl, ho, hcd, ⟨ccl, cdd, vs, ccs, file, tf, hcode, hvs, hfile⟩, ⟨cl, cld, csl, hcell⟩⟩ := T.fn
  obtain ⟨nm, q, N, bs, bm, sn, sub, ab, col, dd, k0, k1, k2, k3, k5, hC, hbm⟩ := T.cls
  have hcl : clsIn K C = some { name := nm, bases := bs, mro := .ref C :: bm, ns := N, qualname := q, hasDict := true, slotNames := sn, subclasses := sub, abstract := ab, collection := col, hasDel := false } := by unfold clsIn; rw [hC] <;> rfl
  refine ks_codeAny_call_defAt (fd := tFn kV doc pm an (.ref cda) ct cc) (body := tBody) (binds := [("self", .ref x), ("most", v)]) hroom (X _ _ ho) rfl hlim (codeRec_of X hcd) rfl (BindsTo.of_eq (by first | rfl | with_unfolding_all rfl)) tS_cell (by
    intro y hy
    rcases List.mem_cons.mp hy with rfl | hy
    · exact tS_self
    · rw [List.mem_singleton.mp hy]; exact tS_most) (fun h₁ hns kk => ?_) tS_co tS_gen tS_kind
  have X₁ : K.In h₁ := X.keeps kk
  have hx₁ := kk _ _ hx
  have hxL : s.heap.objs.size ≠ x := Nat.ne_of_gt (Heap.lt_size hx)
  have nsk : ∀ {b : Addr} {m : Str → Option Value}, s.heap.Ns b m → h₁.Ns b m := fun ⟨o, es, ep, e, r⟩ => ⟨o, es, ep, kk _ _ e, r⟩
  obtain ⟨hp, g, d, tk, os⟩ := s
  dsimp only at hns kk hxL nsk ⊢
  show _root_.PySem.wpAt _ _ _ (execs tBody _) _ _ _
  refine ks_wpAt_execs_cons (ks_wpAt_Expr_any (ks_wpAt_MethodCall ?_))
  refine ks_wpAt_super_base tS_super tS_class (by decide +kernel) rfl (X₁ _ _ ho) rfl (by rfl) rfl (X₁ _ _ hcode) rfl hvs hfile T.topS ?_
  obtain ⟨oD, hD1, hD2⟩ : ∃ oD, h₁.get? C = some oD ∧ ∃ cd, oD.data = .cls cd ∧ clsIn K C = some cd := ⟨_, X₁ _ _ hC, _, rfl, hcl⟩
  obtain ⟨cdD, hD3, _⟩ := hD2
  refine ks_loadName_global tS_kind tS_super (loadGlobal_builtin (nsk hG) T.gS (nsk hB) ((hbb _ (by decide +kernel)).trans (show bootBuiltins "super" = some (.type "super") by decide +kernel)) ⟨rfl, ?_⟩)
  refine wpAny_loadName_free tS_kind tS_class rfl ⟨_, X₁ _ _ hcell, rfl⟩ ?_
  refine wpAny_loadName_local tS_kind tS_self hns (v := .ref x) (by rfl) ?_
  refine ks_wpAny_isType_cls hD1 hD3 ⟨rfl, ?_⟩
  refine ks_wpAny_call_super hD1 hD3 hx₁ rfl (fun c e => by cases e) (looks_mroIn X₁ T.mroC) (fun h₂ e2 k2 => ?_)
  have X₂ : K.In h₂ := X₁.keeps k2
  have hxC : x ≠ C := fun z => by rw [z, hC] at hnx; cases hnx
  have sup := T.sup
  unfold ks_superIn at sup
  rw [hcl] at sup
  have I₂ : InstAt h₂ x (excO C t0) C none := ⟨k2 _ _ hx₁, rfl, rfl, trivial⟩
  refine kxs_getMethod kxs_ValueError e2 (looks_opaque X₂ T.opq) (l₀ := .ref C :: bm) (fun A Q E s k q => wpAny_bind ((looks_clsIn X₂ hcl) A _ E s k (wpAny_pure q))) rfl X₂ sup (I₂.type.andThen (looks_subIn X₂ T.veC)) hxC (by decide +kernel) ?_
  have hu : (h₂.push (kxs_mw "ValueError.__init__" x)).get? h₂.objs.size = some (kxs_mw "ValueError.__init__" x) := Heap.get?_push_size _ rfl
  have k3 : ∀ b o, h₂.get? b = some o → (h₂.push (kxs_mw "ValueError.__init__" x)).get? b = some o := fun b o e => Heap.get?_push_of_some _ e
  have nsv : ∀ {h3 : Heap}, (∀ b o, h₁.get? b = some o → h3.get? b = some o) → h3.Ns hp.objs.size (fun y => [(("self" : Str), Value.ref x), ("most", v)].reverse.lookup y) := fun kk3 => by
    obtain ⟨o, es, ep, e, r⟩ := hns
    exact ⟨o, es, ep, kk3 _ _ e, r⟩
  refine kxs_callWith (i := "ValueError.__init__") (x := x) (by rfl) ?_
  refine evalArgs_plain ?_
  refine Calls.spliced_cons (ldAt (nsv fun b o e => k3 _ _ (k2 _ _ e)) (v := v) (by rfl) (Calls.spliced_nil ⟨hu, ?_⟩) tS_kind tS_most)
  refine call_mw T (X₂.keeps k3) hu (k3 _ _ (k2 _ _ hx₁)) fun h₄ t1 k4 hx₄ => ?_
  have kx : ∀ b o, b ≠ x → h₁.get? b = some o → h₄.get? b = some o := fun b o hb e => k4 b o hb (k3 _ _ (k2 _ _ e))
  have X₄ : K.In h₄ := fun a o e => kx a o (fun z => by rw [z, hnx] at e; cases e) (X₁ a o e)
  have ns4 : h₄.Ns hp.objs.size (fun y => [(("self" : Str), Value.ref x), ("most", v)].reverse.lookup y) := by
    obtain ⟨o, es, ep, e, r⟩ := hns
    exact ⟨o, es, ep, kx _ _ hxL e, r⟩
  show _root_.PySem.wpAt _ _ _ (execs [_] _) _ _ _
  refine wpAt_of_wpAny (wpAny_execs_cons (plainObj_wpAny_Assign_Attribute ?_))
  refine ldAt ns4 (v := v) (by rfl) (ldAt ns4 (v := .ref x) (by rfl) ?_ tS_kind tS_self) tS_kind tS_most
  refine set_plain X₄ (ox := excO C t1) (od := none) ⟨hx₄, rfl, rfl, trivial⟩ T.sa ?_
  refine exc_osa X₄ hx₄ hcl (show refsVE (.ref C :: bm) = true from hbm) rfl T.noN (fun h₅ tk₅ dx k₅ dn dne hx₅ hn₅ => ?_)
  have z : hp.objs.size < h₄.objs.size := ns4.lt
  show wpAny _ _ (execs _ _) _ _ _
  refine wpAny_execs_nil (hq h₅ tk₅ dx ⟨fun b o hb e => k₅ b o hb (kx b o hb (kk b o e)), ⟨t1, hx₅⟩, Nat.le_of_lt (Nat.lt_of_lt_of_le z dn), dne, hn₅⟩)
/-- a made TooMany -/
structure Made (h h' : Heap) (e C d : Addr) (v : Value) : Prop where
  keep : ∀ b o, h.get? b = some o → h'.get? b = some o
  new : h.objs.size ≤ e
  obj : ∃ oe vs, h'.get? e = some oe ∧ oe.cls = .ref C ∧ oe.dict = some d ∧ oe.data = .fields vs ∧ vs[1]? = some .none
  dbig : h.objs.size ≤ d
  dne : d ≠ e
  ns : h'.Ns1 d (fun y => if y = "most" then some v else none)
theorem tm_made (T : Txt prog K mg C fI) {v : Value} (X : K.In s.heap) (hlim : s.heap.NoLimit) (hG : s.heap.Ns mainGlobals mg) (hB : s.heap.Ns builtinsNs mb) (hbb : ∀ x : Str, x ≠ "__name__" → mb x = bootBuiltins x) (hroom : A.depth + 1 < recursionLimit)
    (hq : ∀ h' tk e d, Made s.heap h' e C d v → R (.ok (.ret (.ref e))) { s with heap := h', toks := tk }) :
    codeAny (model prog w) A (.call (.ref C) ⟨[v], []⟩) R s := by
  obtain ⟨nm, q, N, bs, bm, sn, sub, ab, col, dd, k0, k1, k2, k3, k5, hC, hbm⟩ := T.cls
  obtain ⟨hp, g, dr, tk, os⟩ := s
  have k : ∀ b o, hp.get? b = some o → ((hp.push (kdv_tup [v])).push (excO C hp.objs.size)).get? b = some o := fun b o e => Heap.get?_push_of_some _ (Heap.get?_push_of_some _ e)
  have hget : ((hp.push (kdv_tup [v])).push (excO C hp.objs.size)).get? (hp.objs.size + 1) = some (excO C hp.objs.size) := by heap_get
  have hnx : K.lookup (hp.objs.size + 1) = none := by
    cases e : K.lookup (hp.objs.size + 1) with
    | none => rfl
    | some o =>
      have z : hp.get? (hp.objs.size + 1) = some o := X _ _ e
      exact absurd (Nat.lt_of_succ_lt (Heap.lt_size z)) (Nat.lt_irrefl _)
  have nsk : ∀ {b : Addr} {m : Str → Option Value}, hp.Ns b m → ((hp.push (kdv_tup [v])).push (excO C hp.objs.size)).Ns b m := fun ⟨o, es, ep, e, r⟩ => ⟨o, es, ep, k _ _ e, r⟩
  refine call_own PySem.F.excBase_ValueError (fun X => refsVE_contains X bm hbm) (X _ _ hC) (looks_findIn X T.iC) (fun self => bind_fn X self T.tC) (one_size v) ?_
  refine tm_init (s := ⟨(hp.push (kdv_tup [v])).push (excO C hp.objs.size), g, dr, tk, os⟩) T (X.keeps k) (hlim.keeps k) (nsk hG) (nsk hB) hbb hget hnx ?_ fun h' tk' dx ⟨k', ⟨t1, hx⟩, dn, dne, hns⟩ => ?_
  · show A.depth + 1 < recursionLimit
    exact hroom
  · have old : ∀ b o, hp.get? b = some o → h'.get? b = some o := fun b o e => k' b o (Nat.ne_of_lt (Nat.lt_succ_of_lt (Heap.lt_size e))) (k b o e)
    have z : hp.objs.size + 1 + 1 ≤ dx := by
      first
        | (simpa only [Heap.size_push] using dn)
        | exact dn
        | (have q := dn; rw [Heap.size_push, Heap.size_push] at q; exact q)
    exact ⟨rfl, hq h' tk' (hp.objs.size + 1) dx ⟨old, Nat.le_succ _, ⟨_, _, hx, rfl, rfl, rfl, rfl⟩, Nat.le_trans (Nat.le_trans (Nat.le_succ _) (Nat.le_succ _)) z, dne, hns⟩⟩
end
end Tm
end

section
set_option Elab.async false
set_option linter.all false
set_option maxRecDepth 100000
set_option maxHeartbeats 2000000
namespace Tm
open PySem PySem.Spec PyProof.Rows L2
/-! ### several clauses, each with a name -/
def wManyAs (K : PySem.W.Frag) (Wout : WX) (D : Ends) : List (Value × Nat × (Addr → Value → Option Addr → TS)) → WX
  | [] => Wout
  | (c, i, ts) :: r => fun cls d σ H => ∃ b, PySem.W.exmOne K cls c = some b ∧ (b = true → ∀ a, H a = none → ts a cls d { nx := fun σ' H' => D.nx (σ'.set i none) H', rt := D.rt, bk := fun σ' H' => D.bk (σ'.set i none) H', ct := fun σ' H' => D.ct (σ'.set i none) H' } (σ.set i (some (.ref a))) H) ∧
    (b = false → wManyAs K Wout D r cls d σ H)
inductive HdsAs (X : Cx) : List ExceptHandler → List (Value × Nat × (Addr → Value → Option Addr → TS)) → Prop
  | nil : HdsAs X [] []
  | cons {x n : Str} {c : Value} {i : Nat} {ts : Addr → Value → Option Addr → TS} {b₀ : Stmt} {suite : List Stmt} {np pos' : PySem.Pos} {hds : List ExceptHandler} {l : List (Value × Nat × (Addr → Value → Option Addr → TS))} (hc : Names X x c) (hi : X.N[i]? = some n) (hln : X.env.kindOf n = some .local)
      (hsu : ∀ (a : Addr) (obe : Obj) (cls : Value) (d : Option Addr) (pn : List (Addr × Obj)), Zc cls d obe → (∃ ves, obe.data = .fields ves) → PSs (X.suite a ((a, obe) :: pn)) (b₀ :: suite) (ts a cls d)) (r : HdsAs X hds l) :
      HdsAs X (.ExceptHandler (some (.Name x np)) (some n) (b₀ :: suite) pos' :: hds) ((c, i, ts) :: l)
section
variable {X : Cx} {body : List Stmt} {h₀ : ExceptHandler} {hds : List ExceptHandler} {l : List (Value × Nat × (Addr → Value → Option Addr → TS))} {pos : PySem.Pos} {tb : WX → TS} {Wout : WX}
theorem ps_try_manyAs (hs : X.stack = X.env :: X.outer) (hf : X.env.frame = some X.env.locals) (hN : X.N.Nodup) (tk : Takes X Wout)
    (bodyOk : ∀ (W : WX) (pn : List (Addr × Obj)) (xe : Value → Shared → Prop), Takes (X.tr pn xe) W → PassesOwn (model X.prog X.w) X.A X.env xe → PSs (X.tr pn xe) body (tb W))
    (hh : HdsAs X (h₀ :: hds) l) : PS X (.Try body (h₀ :: hds) [] [] pos) (fun D σ H => tb (wManyAs X.K Wout D l) D σ H) := by
  refine ⟨fun pn s σ H D I h => ?_⟩
  have ok := I.ok
  have frA : X.A.frames = some (X.env :: X.outer) := by rw [ok.frames, hs]
  refine wpAny_Try_except ?_
  refine wpAny_mono ((bodyOk (wManyAs X.K Wout D l) (X.pn ++ pn) (fun e s₁ => wpAny (model X.prog X.w) X.A (noteFrame e X.env) (fun _ s₂ => wpAny (model X.prog X.w) X.A (setFlight e none) (fun _ s₃ =>
    wpAny (model X.prog X.w) X.A (handleBy e X.env (h₀ :: hds)) (SP X pn D) X.xe s₃) X.xe s₂) X.xe s₁) (fun u s' hx => ?_) PassesOwn.looking).run [] s σ H D (I.toTry _) h) (fun f s1 hq1 => ?_) (fun e s1 he => he)
  · obtain ⟨a, B, sB, pn2, σ', H', cls, d, rfl, L1, nB, uA, skyA, na, oS, aG, w⟩ := hx
    have Ja : Inv X pn σ' H' sB := L1.ofTry ok
    have skyB : Sky B (X.env :: X.outer) a (Zc cls d) X.env.locals s'.heap := by rw [← hs]; exact skyA
    change wpAny (model X.prog X.w) X.A (noteFrame (.ref a) X.env) _ _ _
    refine Sky.land Zc.steady frA hf skyB fun h3 fa3 ua3 => ?_
    have L3 : Inv X pn σ' H' { s' with heap := h3 } := Ja.landed nB fa3.1 (uA.trans ua3) oS aG
    obtain ⟨ob3, us3, g3, z3, d3⟩ := fa3.there
    have nFr : a ∉ frs (X.env :: X.outer) := fun hmm => by
      obtain ⟨_, o', e', hnf⟩ := fa3.2.2.1.mem hmm
      rw [g3] at e'; cases e'
      exact hnf _ d3
    have nLoc : a ≠ X.env.locals := fun z => nFr (List.mem_filterMap.mpr ⟨X.env, List.mem_cons_self, by rw [hf, z]⟩)
    have nFs : a ∉ X.fs := fun hmm => by
      obtain ⟨e, he, q⟩ := List.mem_filterMap.mp hmm
      exact nFr (List.mem_filterMap.mpr ⟨e, List.mem_cons_of_mem _ he, q⟩)
    have T3 := L3.suite g3 d3 na nLoc nFs
    have walkH : ∀ {hds' : List ExceptHandler} {l' : List (Value × Nat × (Addr → Value → Option Addr → TS))}, HdsAs X hds' l' → wManyAs X.K Wout D l' cls d σ' H' →
        wpAny (model X.prog X.w) X.A (handleBy (.ref a) X.env hds') (SP X pn D) X.xe { s' with heap := h3 } := by
      intro hds' l' hks
      induction hks with
      | nil =>
        intro w
        refine wpAny_handleBy_nil ?_
        obtain ⟨m1, m2, m3, obe, ves, T, oTb, tq, he, hz, hd, hh1, hrr⟩ := id fa3
        unfold PySem.passOn
        refine wpAny_bind (wpAny_field he hd hh1 ?_)
        rw [if_neg (by simp : ¬ ((Value.ref T == Value.none) = true))]
        have out2 : wpAny (model X.prog X.w) X.A (setFlight (.ref a) X.env.frame) (fun _ s4 => wpAny (model X.prog X.w) X.A (throw (.ref a) : Sem Flow) (SP X pn D) X.xe s4) X.xe { s' with heap := h3 } := by
          rw [hf]
          refine HandSPX.setFlight_upZ fa3 fun h4 gg4 ua4 => wpAny_throw (tk _ _ ?_)
          exact ⟨a, B, sB, pn, σ', H', cls, d, rfl, Ja, nB, (uA.trans ua3).trans ua4, .inr (.inr (by rw [hs]; exact gg4)), na, oS, aG, w⟩
        first
          | exact wpAny_bind (wpAny_pure (wpAny_bind out2))
          | exact wpAny_bind out2
      | @cons x n c i ts b₀ suite np pos' hds2 l2 hc hi hln hsu r ih =>
        intro w
        obtain ⟨b, hbb, onT, onF⟩ := w
        refine wpAny_handleBy_cons (codeAny_handlers_test ?_) (by intro q; cases q)
        have lk1 : PySem.W.Looks (model X.prog X.w) h3 (typeOf (.ref a)) cls := fun A Q E s k q => wpAny_typeOf_ref (k _ _ g3) (by rw [z3.1]; exact q)
        have lk2 := PySem.W.exm_one (M := model X.prog X.w) (L3.kIn) lk1 hbb
        have named : ∀ {Q : Value → Shared → Prop} {E : Value → Shared → Prop}, Q c { s' with heap := h3 } → wpAny (model X.prog X.w) (X.A.mark (some (.ref a))) (eval (.Name x np) X.env) Q E { s' with heap := h3 } := fun {Q E} q => by
          obtain ⟨hgl, hdd, hmm | ⟨hmm, hvv, hnm⟩⟩ := hc
          · exact ld_glob (X := X.suite a ((a, ob3) :: (X.pn ++ pn))) T3 hgl hmm q hdd
          · exact ld_blt (X := X.suite a ((a, ob3) :: (X.pn ++ pn))) T3 hgl hmm hvv q hnm hdd
        refine named (lk2.here ?_)
        cases b with
        | true =>
          refine codeAny_handlers_suite_as ?_
          refine HandSPX.lands_againZ fa3 fun h4 fa4 ua4 => ?_
          have L4 : Inv X pn σ' H' { s' with heap := h4 } := Ja.landed nB fa4.1 ((uA.trans ua3).trans ua4) oS aG
          obtain ⟨ob4, us4, g4, z4, d4⟩ := fa4.there
          have T4 := L4.suite g4 d4 na nLoc nFs
          refine store_ok (X := X.suite a ((a, ob4) :: (X.pn ++ pn))) (v := .ref a) T4 hN hi (.inl hln) rfl (fun s5 S5 => ?_) (.inr hln)
          refine wpAny_mono ((hsu a ob4 cls d (X.pn ++ pn) z4 ⟨_, d4⟩).run [] s5 _ H' _ S5 (onT rfl a na)) (fun f s6 hq1 => ?_) (fun _ _ z => False.elim z)
          have fin2 : ∀ {ρ6 : L2.St} {G6 : Hp} {Q : Shared → Prop}, Inv (X.suite a ((a, ob4) :: (X.pn ++ pn))) [] ρ6 G6 s6 → (∀ s7, Inv X pn (ρ6.set i none) G6 s7 → Q s7) →
              wpAny (model X.prog X.w) X.A (do bindName X.env n .none; unbindBehindTheSuite X.env n pos') (fun _ s7 => Q s7) X.xe s6 := fun {ρ6 G6 Q} T6 hq => gone_ok (T6.unsuite ok) hN hi hln hq
          cases f with
          | next =>
            obtain ⟨ρ6, G6, T6, y6⟩ := hq1
            exact fin2 T6 fun s7 L7 => ⟨_, _, L7, y6⟩
          | brk =>
            obtain ⟨ρ6, G6, T6, y6⟩ := hq1
            exact fin2 T6 fun s7 L7 => ⟨_, _, L7, y6⟩
          | cont =>
            obtain ⟨ρ6, G6, T6, y6⟩ := hq1
            exact fin2 T6 fun s7 L7 => ⟨_, _, L7, y6⟩
          | ret u =>
            obtain ⟨w6, ρ6, G6, T6, x6, y6⟩ := hq1
            exact fin2 T6 fun s7 L7 => ⟨_, _, _, L7, x6, y6⟩
        | false =>
          show wpAny _ X.A (handleBy (.ref a) X.env hds2) _ _ _
          exact ih (onF rfl)
    exact walkH hh w
  · cases f with
    | next =>
      obtain ⟨σ', H', L1, q⟩ := hq1
      exact wpAny_execs_nil ⟨σ', H', L1.ofTry ok, q⟩
    | brk =>
      obtain ⟨σ', H', L1, q⟩ := hq1
      exact ⟨σ', H', L1.ofTry ok, q⟩
    | cont =>
      obtain ⟨σ', H', L1, q⟩ := hq1
      exact ⟨σ', H', L1.ofTry ok, q⟩
    | ret u =>
      obtain ⟨v, σ', H', L1, r, q⟩ := hq1
      exact ⟨v, σ', H', L1.ofTry ok, r, q⟩
end
/-! ### X(): an own class without __init__, no argument -/
theorem pmk_own0 {X : Cx} {C : Addr} {bmB : List Value} {B newId initId : String} {x : Str} {p pos : PySem.Pos} (F : ExcBaseFacts B newId initId bmB) (q : PySem.W.excIn X.K C bmB newId = true) (gC : X.mg x = some (.ref C)) (kC : PySem.W.keepIn X.K (.ref C) = true) (r : Raises X (.ref C)) (hgl : Gl X x)
    (hs : starEach ([] : List Expr) X.env = [] := by rfl) (hdb : (x == ("__debug__" : Str)) = false := by decide) :
    PMk X (.Call (.Name x p) [] [] pos) (fun _ H Q => Q (.ref C) none H) := by
  intro pn s σ H Q I h
  refine wpAny_Call_Name_kw (ld_glob I hgl gC ?_ hdb)
  refine PySem.W.callWith_K0 I.kIn kC ?_
  show wpAny _ _ (call (.ref C) []) _ _ _
  obtain ⟨bm, N, nm, qn, bs, hdct, sn, sub, ab, col, dd, k0, m1, m2, m3, k5, mN, hC, hN, hni, T⟩ := exc_obj I.kIn q
  refine wpAny_call_exc_subT F T hC hN hni (fun h' e hmm => ?_) (Nat.zero_le _)
  exact mk_of I hmm r h (I.hok.gone hmm.new)
end Tm
end

section
set_option Elab.async false
set_option linter.all false
set_option maxRecDepth 100000
set_option maxHeartbeats 2000000
namespace Rk
open PySem PySem.Spec PyProof.Rows L2 Evl
/-! ### what stays: all (Ex), the tuples (ExT) -/
def isTup : HO → Bool
  | .tup _ => true
  | .frz _ (.tup _) => true
  | _ => false
def ExT (H H' : Hp) : Prop := ∀ a o, H a = some o → isTup o = true → H' a = some o
theorem Ex.t {H H' : Hp} (e : Ex H H') : ExT H H' := fun a o h _ => e a o h
theorem ExT.refl (H : Hp) : ExT H H := fun _ _ h _ => h
theorem ExT.trans {H H1 H2 : Hp} (e : ExT H H1) (k : ExT H1 H2) : ExT H H2 := fun a o h i => k a o (e a o h i) i
theorem ExT.mut {H H' : Hp} {p : Addr} {o u : HO} (e : ExT H H') (h : H' p = some u) (hu : isTup u = false) : ExT H (upd H' p o) := fun a x ha hx => by
  have h1 := e a x ha hx
  have hn : a ≠ p := fun z => by
    rw [z, h] at h1
    rw [Option.some.inj h1, hx] at hu
    cases hu
  rw [upd_ne hn]
  exact h1
theorem ExT.new {H : Hp} {p : Addr} {o : HO} (h : H p = none) : ExT H (upd H p o) := Ex.t (Ex.new h)
theorem rd_t {H H' : Hp} {a : Addr} {xs : List V} (e : ExT H H') (h : Rd H a (.tup xs)) : Rd H' a (.tup xs) := by
  rcases h with h | ⟨o, h⟩
  · exact .inl (e a _ h rfl)
  · exact .inr ⟨o, e a _ h rfl⟩
theorem sqt_t {K : PySem.W.Frag} {H H' : Hp} {a : Addr} {xs : List V} (e : ExT H H') (h : SqT K H a xs) : SqT K H' a xs := by
  rcases h with h | h
  · exact .inl (rd_t e h)
  · exact .inr h
/-! ### what comes out -/
def Sta (P : V → Hp → Prop) (v : V) (H : Hp) : Prop := ∀ H', Ex H H' → P v H'
theorem Sta.now {P : V → Hp → Prop} {v : V} {H : Hp} (h : Sta P v H) : P v H := h H (Ex.refl H)
theorem Sta.on {P : V → Hp → Prop} {v : V} {H H' : Hp} (h : Sta P v H) (e : Ex H H') : Sta P v H' := fun H2 e2 => h H2 (e.trans e2)
/-- a promise's end: from H on, a value of P, what stood stands -/
def Ret (H : Hp) (P : V → Hp → Prop) (Q : VK) : Prop := ∀ v H', Ex H H' → Sta P v H' → Q v H'
theorem Ret.back {H H1 : Hp} {P : V → Hp → Prop} {Q : VK} (r : Ret H P Q) (e : Ex H H1) : Ret H1 P Q := fun v H' e2 p => r v H' (e.trans e2) p
theorem Ret.val {H H1 : Hp} {w : V} {Q : VK} (r : Ret H (fun v _ => v = w) Q) (e : Ex H H1) : Q w H1 := r w H1 e fun _ _ => rfl
theorem Ret.weak {H : Hp} {P P' : V → Hp → Prop} {Q : VK} (r : Ret H P' Q) (h : ∀ v H', P v H' → P' v H') : Ret H P Q := fun v H' e p => r v H' e fun H2 e2 => h v H2 (p H2 e2)
theorem ret_val {H : Hp} {w : V} {Q : VK} (h : ∀ H', Ex H H' → Q w H') : Ret H (fun v _ => v = w) Q := fun v H' e p => by
  rw [p.now]
  exact h H' e
def EvP (te : TE) (σ : L2.St) (H : Hp) (P : V → Hp → Prop) : Prop := ∀ H1, Ex H H1 → ∀ Q : VK, Ret H1 P Q → te σ H1 Q
theorem EvP.mono {te : TE} {σ : L2.St} {H H' : Hp} {P : V → Hp → Prop} (h : EvP te σ H P) (e : Ex H H') : EvP te σ H' P := fun H1 e1 => h H1 (e.trans e1)
theorem EvP.ev {te : TE} {σ : L2.St} {H : Hp} {w : V} (h : EvP te σ H fun v _ => v = w) : Ev te σ H w := fun H1 e Q q => h H1 e Q (ret_val q)
theorem evp {te : TE} {σ : L2.St} {H : Hp} {w : V} (h : Ev te σ H w) : EvP te σ H fun v _ => v = w := fun H1 e Q r => h H1 e Q fun H2 e2 => r w H2 e2 fun _ _ => rfl
theorem evp_of {te : TE} {σ : L2.St} {H : Hp} {w : V} {P : V → Hp → Prop} (h : Ev te σ H w) (p : Sta P w H) : EvP te σ H P := fun H1 e Q r => h H1 e Q fun H2 e2 => r w H2 e2 (p.on (e.trans e2))
theorem et_yes {σ : L2.St} {H : Hp} : EvT tYes σ H true := fun H1 _ _ q => q H1 (Ex.refl H1)
/-- what a reading asks, given as a promise -/
theorem EvP.raw {te : TE} {σ : L2.St} {H : Hp} {P : V → Hp → Prop} (h : ∀ H1, Ex H H1 → ∀ Q : VK, Ret H1 P Q → te σ H1 Q) : EvP te σ H P := h
/-! ### pairs of lists -/
section
variable {α β γ : Type} {F : α → β → Prop}
theorem paired_nil : Paired F [] [] := .nil
theorem pget : ∀ {l : List α} {m : List β} {i : Nat} {a : α}, Paired F l m → l[i]? = some a → ∃ b, m[i]? = some b ∧ F a b
  | _, _, _, _, .nil, e => by simp at e
  | _, _, 0, _, .cons r _, e => by
    simp at e
    subst e
    exact ⟨_, rfl, r⟩
  | _, _, i + 1, a, .cons _ t, e => by
    obtain ⟨b, h1, h2⟩ := pget (i := i) (a := a) t (by simpa using e)
    exact ⟨b, by simpa using h1, h2⟩
theorem pget2 {l : List α} {m : List β} {i : Nat} {b : β} (p : Paired F l m) (e : m[i]? = some b) : ∃ a, l[i]? = some a ∧ F a b := by
  have hi : i < l.length := by
    rw [p.length]
    exact (List.getElem?_eq_some_iff.mp e).1
  obtain ⟨b', h1, h2⟩ := pget p (List.getElem?_eq_getElem hi)
  rw [e] at h1
  cases h1
  exact ⟨_, List.getElem?_eq_getElem hi, h2⟩
theorem paired_map {g : α → β} : ∀ (l : List α), (∀ a, a ∈ l → F a (g a)) → Paired F l (l.map g)
  | [], _ => .nil
  | a :: r, h => .cons (h a List.mem_cons_self) (paired_map r fun b hb => h b (List.mem_cons_of_mem _ hb))
theorem paired_eq {g : α → β} : ∀ {l : List α} {m : List β}, Paired (fun a b => b = g a) l m → m = l.map g
  | _, _, .nil => rfl
  | _, _, .cons h t => by
    rw [h, paired_eq t] <;> rfl
theorem paired_app : ∀ {l l' : List α} {m m' : List β}, Paired F l m → Paired F l' m' → Paired F (l ++ l') (m ++ m')
  | _, _, _, _, .nil, q => q
  | _, _, _, _, .cons r t, q => .cons r (paired_app t q)
theorem paired_mem {l : List α} {m : List β} {a : α} (p : Paired F l m) (h : a ∈ l) : ∃ b, b ∈ m ∧ F a b := by
  obtain ⟨i, hi, e⟩ := List.mem_iff_getElem.mp h
  obtain ⟨b, h1, h2⟩ := pget p (by rw [List.getElem?_eq_getElem hi, e])
  exact ⟨b, List.mem_of_getElem? h1, h2⟩
theorem paired_mapl {f : γ → α} : ∀ {l : List γ} {m : List β}, Paired (fun c b => F (f c) b) l m → Paired F (l.map f) m
  | _, _, .nil => .nil
  | _, _, .cons r t => .cons r (paired_mapl t)
theorem paired_mapl' {f : γ → α} : ∀ {l : List γ} {m : List β}, Paired F (l.map f) m → Paired (fun c b => F (f c) b) l m
  | [], _, .nil => .nil
  | _ :: _, _, .cons r t => .cons r (paired_mapl' t)
end
/-! ### comprehensions -/
/-- what tLc asks once the source is made -/
abbrev LcAt (J : It) (g : TG) (tt : TT) (te : TE) (vs : List Nat) (σ : L2.St) (H1 : Hp) (Q : VK) : Prop := ∀ D, H1 D = none → ∃ Wt : Nat → Nat → Hp → Prop, (∃ m, Wt 0 m (upd H1 D (.lst []))) ∧ ∀ i m H, Wt i m H →
  (J.stop i H ∧ Q (.ref D) H) ∨ (J.go i H ∧ ∃ Nn : Hp → Prop, (∀ H', Nn H' → ∃ m', m' < m ∧ Wt (i + 1) m' H') ∧ ∀ x H', J.yld i H x H' → g x (wipe σ vs) H' fun σ2 H2 => wipe σ2 vs = wipe σ vs ∧ tt σ2 H2 fun b H3 =>
    if b = true then te σ2 H3 fun y H4 => ∃ acc, H4 D = some (.lst acc) ∧ acc.length < sizeLine ∧ Nn (upd H4 D (.lst (acc ++ [y]))) else Nn H3)
section
variable {α : Type} {J : It} {G : Hp → Prop} {vs : List V} {as : List α} {R : α → V → Prop} {H1 : Hp} {σ : L2.St} {own : List Nat} {tt : TT} {te : TE} {j : Nat} {Q : VK} {D : Addr}
/-- i turns are done -/
def Cp (H1 : Hp) (D : Addr) (as : List α) (f : α → Bool) (P : α → V → Hp → Prop) (i : Nat) (H : Hp) : Prop :=
  H1 D = none ∧ Ex H1 H ∧ ∃ ys, H D = some (.lst ys) ∧ Paired (fun a y => P a y H) ((as.take i).filter f) ys
theorem take_succ_of {l : List α} {i : Nat} {a : α} (h : l[i]? = some a) : l.take (i + 1) = l.take i ++ [a] := by
  rw [List.take_add_one, h] <;> rfl
theorem cp_yes {f : α → Bool} {P : α → V → Hp → Prop} (hP : ∀ a y H H', ExT H H' → P a y H → P a y H') {i : Nat} {a : α} {H H4 : Hp} {y : V} (c : Cp H1 D as f P i H) (e4 : Ex H H4) (hi : as[i]? = some a) (hf : f a = true) (hy : P a y H4)
    (hl : as.length ≤ 16000000) : ∃ acc, H4 D = some (.lst acc) ∧ acc.length < sizeLine ∧ Cp H1 D as f P (i + 1) (upd H4 D (.lst (acc ++ [y]))) := by
  obtain ⟨c1, c2, ys, c3, c4⟩ := c
  have hD := e4 _ _ c3
  have eT : ExT H4 (upd H4 D (.lst (ys ++ [y]))) := (ExT.refl H4).mut hD rfl
  refine ⟨ys, hD, ?_, c1, Ex.mut (c2.trans e4) c1, _, upd_same, ?_⟩
  · have q := c4.length
    have q2 := List.length_filter_le f (as.take i)
    rw [List.length_take] at q2
    rw [sizeLine_eq]
    omega
  · rw [take_succ_of hi, List.filter_append, List.filter_cons, if_pos hf]
    exact paired_app (c4.mono fun a b h => hP a b _ _ ((Ex.t e4).trans eT) h) (.cons (hP _ _ _ _ eT hy) .nil)
theorem cp_no {f : α → Bool} {P : α → V → Hp → Prop} (hP : ∀ a y H H', ExT H H' → P a y H → P a y H') {i : Nat} {a : α} {H H4 : Hp} (c : Cp H1 D as f P i H) (e4 : Ex H H4) (hi : as[i]? = some a) (hf : f a = false) : Cp H1 D as f P (i + 1) H4 := by
  obtain ⟨c1, c2, ys, c3, c4⟩ := c
  refine ⟨c1, c2.trans e4, ys, e4 _ _ c3, ?_⟩
  rw [take_succ_of hi, List.filter_append, List.filter_cons, if_neg (by rw [hf]; decide)]
  show Paired _ (_ ++ []) _
  rw [List.append_nil]
  exact c4.mono fun a b h => hP a b _ _ (Ex.t e4) h
theorem cp_turn {f : α → Bool} {P : α → V → Hp → Prop} (hP : ∀ a y H H', ExT H H' → P a y H → P a y H') {i : Nat} {a : α} {H H0 : Hp} {σ2 : L2.St} (c : Cp H1 D as f P i H0) (e0 : Ex H0 H) (hi : as[i]? = some a) (hl : as.length ≤ 16000000)
    (ht : EvT tt σ2 H (f a)) (he : f a = true → EvP te σ2 H (P a)) :
    tt σ2 H fun b H3 => if b = true then te σ2 H3 fun y H4 => ∃ acc, H4 D = some (.lst acc) ∧ acc.length < sizeLine ∧ Cp H1 D as f P (i + 1) (upd H4 D (.lst (acc ++ [y]))) else Cp H1 D as f P (i + 1) H3 := by
  refine ht H (Ex.refl H) _ fun H3 e3 => ?_
  cases hf : f a with
  | true =>
    show te σ2 H3 _
    exact he hf H3 e3 _ fun y H4 e4 p => cp_yes hP c (e0.trans (e3.trans e4)) hi hf p.now hl
  | false =>
    show Cp H1 D as f P (i + 1) H3
    exact cp_no hP c (e0.trans e3) hi hf
theorem lc_main (w : Walk J vs.length G (YAt vs)) (hp : Paired R as vs) (hGs : ∀ H', Ex H1 H' → G H') (f : α → Bool) (P : α → V → Hp → Prop) (hP : ∀ a y H H', ExT H H' → P a y H → P a y H') (hl : as.length ≤ 16000000)
    (hw : ∀ x, wipe ((wipe σ own).set j (some x)) own = wipe σ own) (ht : ∀ a v H, Ex H1 H → a ∈ as → R a v → EvT tt ((wipe σ own).set j (some v)) H (f a))
    (he : ∀ a v H, Ex H1 H → a ∈ as → R a v → f a = true → EvP te ((wipe σ own).set j (some v)) H (P a))
    (q : ∀ D ys H', H1 D = none → Ex H1 H' → H' D = some (.lst ys) → Paired (fun a y => P a y H') (as.filter f) ys → Q (.ref D) H') : LcAt J (gName j) tt te own σ H1 Q := fun D hD =>
  lc_it w (Cp H1 D as f P) ⟨hD, Ex.new hD, [], upd_same, .nil⟩ (fun i H _ c => hGs H c.2.1) (fun i x H H' hi c y => by
    obtain ⟨rfl, hx⟩ := y
    obtain ⟨a, ha, r⟩ := pget2 hp hx
    have hm : a ∈ as := List.mem_of_getElem? ha
    exact ⟨hw x, cp_turn hP c (Ex.refl _) ha hl (ht a x H' c.2.1 hm r) fun hf => he a x H' c.2.1 hm r hf⟩) (fun H c => by
    obtain ⟨c1, c2, ys, c3, c4⟩ := c
    rw [← hp.length, List.take_length] at c4
    exact q D ys H c1 c2 c3 c4)
/-- the values are told by a function, the source by a function -/
theorem lc_fn {rep : α → V} (w : Walk J (as.map rep).length G (YAt (as.map rep))) (hGs : ∀ H', Ex H1 H' → G H') (f : α → Bool) (g : α → V) (hl : as.length ≤ 16000000)
    (hw : ∀ x, wipe ((wipe σ own).set j (some x)) own = wipe σ own) (ht : ∀ a H, Ex H1 H → a ∈ as → EvT tt ((wipe σ own).set j (some (rep a))) H (f a))
    (he : ∀ a H, Ex H1 H → a ∈ as → f a = true → Ev te ((wipe σ own).set j (some (rep a))) H (g a))
    (q : ∀ D H', H1 D = none → Ex H1 H' → H' D = some (.lst ((as.filter f).map g)) → Q (.ref D) H') : LcAt J (gName j) tt te own σ H1 Q :=
  lc_main (R := fun a v => v = rep a) w (paired_map as fun _ _ => rfl) hGs f (fun a v _ => v = g a) (fun _ _ _ _ _ h => h) hl hw (fun a v H e ha r => by
    rw [r]
    exact ht a H e ha) (fun a v H e ha r hf => by
    rw [r]
    exact evp (he a H e ha hf)) (fun D ys H' h1 h2 h3 h4 => by
    rw [paired_eq h4] at h3
    exact q D H' h1 h2 h3)
/-- a source of pairs: n turns, the target two names -/
theorem lc_pair {K : PySem.W.Frag} {n i1 i2 : Nat} {fx fy : Nat → Option V} (w : Walk J n G (YPair fx fy)) (hn : as.length = n) (hGs : ∀ H', Ex H1 H' → G H') (f : α → Bool) (P : α → V → Hp → Prop) (hP : ∀ a y H H', ExT H H' → P a y H → P a y H') (hl : as.length ≤ 16000000)
    (hw : ∀ x y, wipe (((wipe σ own).set i1 (some x)).set i2 (some y)) own = wipe σ own) (ht : ∀ i a x y H, Ex H1 H → as[i]? = some a → fx i = some x → fy i = some y → EvT tt (((wipe σ own).set i1 (some x)).set i2 (some y)) H (f a))
    (he : ∀ i a x y H, Ex H1 H → as[i]? = some a → fx i = some x → fy i = some y → f a = true → EvP te (((wipe σ own).set i1 (some x)).set i2 (some y)) H (P a))
    (q : ∀ D ys H', H1 D = none → Ex H1 H' → H' D = some (.lst ys) → Paired (fun a y => P a y H') (as.filter f) ys → Q (.ref D) H') : LcAt J (gTup K 2 (gCons (gName i1) (gCons (gName i2) gNil))) tt te own σ H1 Q := fun D hD =>
  lc_it w (Cp H1 D as f P) ⟨hD, Ex.new hD, [], upd_same, .nil⟩ (fun i H _ c => hGs H c.2.1) (fun i v H H' hi c y => by
    obtain ⟨T, x, z, rfl, nT, rfl, hx, hz⟩ := y
    have ha : as[i]? = some as[i] := List.getElem?_eq_getElem (by omega)
    have e1 : Ex H (upd H T (.tup [x, z])) := Ex.new nT
    refine ⟨T, [x, z], rfl, SqT.of upd_same, rfl, x, [z], rfl, z, [], rfl, rfl, hw x z, ?_⟩
    exact cp_turn hP c e1 ha hl (ht i _ x z _ (c.2.1.trans e1) ha hx hz) fun hf => he i _ x z _ (c.2.1.trans e1) ha hx hz hf) (fun H c => by
    obtain ⟨c1, c2, ys, c3, c4⟩ := c
    rw [← hn, List.take_length] at c4
    exact q D ys H c1 c2 c3 c4)
end
/-! ### the rules with K told (within a comprehension) -/
section
variable {X : Cx} {K : PySem.W.Frag} {ta tb : TE} {a b e : Expr} {f : Str} {pos : PySem.Pos}
theorem kx_fld (hK : X.K = K) (he : PE X e ta) (hb : attributeBase e f X.env (eval e X.env) = eval e X.env) : PE X (.Attribute e f pos) (tFld K ta f) := hK ▸ pe_fld he hb
theorem kx_len (hK : X.K = K) : CallR X (.builtin "len") (rLenS K) := hK ▸ call_len_seq
theorem kx_isi (hK : X.K = K) : CallR X (.builtin "isinstance") (rIsi K) := hK ▸ call_isi
theorem kx_all (hK : X.K = K) (hc : X.calm = true) : CallR X (.builtin "all") (rAll K) := hK ▸ cr_all hc
theorem kx_any (hK : X.K = K) (hc : X.calm = true) : CallR X (.builtin "any") (rAny K) := hK ▸ cr_any hc
theorem kx_sum (hK : X.K = K) (hc : X.calm = true) : CallR X (.builtin "sum") (rSum K) := hK ▸ cr_sum hc
theorem kx_in (hK : X.K = K) : OpR X (compareOp .In) (rIn K false) := hK ▸ op_in_seq
theorem kx_notIn (hK : X.K = K) : OpR X (compareOp .NotIn) (rIn K true) := hK ▸ op_notIn_seq
theorem kx_list (hK : X.K = K) : IxR X (rIxL K) := hK ▸ ix_list
theorem kx_tup (hK : X.K = K) : IxR X (rIxT K) := hK ▸ ix_tup
theorem kx_pil {tg : Expr} {tl : TE} (hK : X.K = K) (hl : PE X a tl) : PI X tg a (iList K tl) := hK ▸ pi_list hl
theorem kx_pit {tg : Expr} {tl : TE} (hK : X.K = K) (hl : PE X a tl) : PI X tg a (iTup K tl) := hK ▸ pi_tup hl
end
/-! ### a dict comprehension -/
theorem dc_it {J : It} {n : Nat} {G : Hp → Prop} {Y : Nat → Hp → V → Hp → Prop} (w : Walk J n G Y) {g : TG} {tt : TT} {tk tv : TE} {vs : List Nat} {σ : L2.St} {H1 : Hp} {D : Addr} {Qd : Hp → Prop} (Pn : Nat → Hp → Prop) (h0 : Pn 0 (upd H1 D (.dK []))) (hGs : ∀ i H, i ≤ n → Pn i H → G H)
    (turn : ∀ i x H H', i < n → Pn i H → Y i H x H' → g x (wipe σ vs) H' fun σ2 H2 => wipe σ2 vs = wipe σ vs ∧ tt σ2 H2 fun b H3 =>
      if b = true then tk σ2 H3 fun y H4 => tv σ2 H4 fun z H5 => ∃ kvs k, y = kV k ∧ H5 D = some (.dK kvs) ∧ kvs.length < sizeLine ∧ Pn (i + 1) (upd H5 D (.dK (putK kvs k z))) else Pn (i + 1) H3) (hEnd : ∀ H, Pn n H → Qd H) :
    ∃ Wt : Nat → Nat → Hp → Prop, (∃ m, Wt 0 m (upd H1 D (.dK []))) ∧ ∀ i m H, Wt i m H →
      (J.stop i H ∧ Qd H) ∨ (J.go i H ∧ ∃ Nn : Hp → Prop, (∀ H', Nn H' → ∃ m', m' < m ∧ Wt (i + 1) m' H') ∧ ∀ x H', J.yld i H x H' → g x (wipe σ vs) H' fun σ2 H2 => wipe σ2 vs = wipe σ vs ∧ tt σ2 H2 fun b H3 =>
        if b = true then tk σ2 H3 fun y H4 => tv σ2 H4 fun z H5 => ∃ kvs k, y = kV k ∧ H5 D = some (.dK kvs) ∧ kvs.length < sizeLine ∧ Nn (upd H5 D (.dK (putK kvs k z))) else Nn H3) := by
  refine ⟨fun i m H => m = n - i ∧ i ≤ n ∧ Pn i H, ⟨n, by simp, Nat.zero_le _, h0⟩, ?_⟩
  rintro i m H ⟨rfl, hi, p⟩
  have q := hGs i H hi p
  by_cases hlt : i < n
  · refine .inr ⟨w.goes i H hlt q, Pn (i + 1), fun H' pq => ⟨n - (i + 1), by omega, rfl, hlt, pq⟩, fun x H' y => turn i x H H' hlt p (w.yields i H x H' hlt q y)⟩
  · have e : i = n := by omega
    subst e
    exact .inl ⟨w.stops H q, hEnd H p⟩
/-! ### ranges as lists -/
theorem walk_rng {lo : Int} {n : Nat} : Walk (Itr lo n) ((List.range n).map fun i : Nat => V.int (lo + (i : Int))).length (fun _ => True) (YAt ((List.range n).map fun i : Nat => V.int (lo + (i : Int)))) := by
  have w : Walk (Itr lo n) n (fun _ => True) (YFn fun i => .int (lo + i)) := walk_range
  have e : ((List.range n).map fun i : Nat => V.int (lo + (i : Int))).length = n := by
    rw [List.length_map, List.length_range]
  rw [e]
  refine w.mono (fun _ h => h) fun i H x H' hi _ y => ⟨y.1, ?_⟩
  rw [List.getElem?_map, List.getElem?_range hi, y.2] <;> rfl
/-- a fresh list -/
def NewL (H : Hp) (xs : List V) (v : V) (H' : Hp) : Prop := ∃ p, v = .ref p ∧ H p = none ∧ H' p = some (.lst xs)
theorem NewL.sta {H H' : Hp} {xs : List V} {v : V} (h : NewL H xs v H') : Sta (NewL H xs) v H' := fun H2 e => by
  obtain ⟨p, h1, h2, h3⟩ := h
  exact ⟨p, h1, h2, e _ _ h3⟩
/-! ### sources -/
def Src (J : It) (vs : List V) (H : Hp) : Prop := ∃ G, Walk J vs.length G (YAt vs) ∧ ∀ H', Ex H H' → G H'
def EvI (wi : TI) (σ : L2.St) (H : Hp) (vs : List V) : Prop := ∀ H1, Ex H H1 → ∀ R : It → Hp → Prop, (∀ J H2, Ex H1 H2 → Src J vs H2 → R J H2) → wi σ H1 R
def Src2 (J : It) (n : Nat) (fx fy : Nat → Option V) (H : Hp) : Prop := ∃ G, Walk J n G (YPair fx fy) ∧ ∀ H', Ex H H' → G H'
def EvI2 (wi : TI) (σ : L2.St) (H : Hp) (n : Nat) (fx fy : Nat → Option V) : Prop := ∀ H1, Ex H H1 → ∀ R : It → Hp → Prop, (∀ J H2, Ex H1 H2 → Src2 J n fx fy H2 → R J H2) → wi σ H1 R
section
variable {K : PySem.W.Frag} {σ : L2.St} {H : Hp} {a b : Addr} {xs ys : List V} {tl : TE} {ta : TA}
theorem ei_list (h : Ev tl σ H (.ref a)) (hx : SqL K H a xs) : EvI (iList K tl) σ H xs := fun H1 e1 R r => h H1 e1 _ fun H2 e2 => ⟨a, rfl, ⟨xs, ex_l (e1.trans e2) hx⟩, r _ H2 e2 ⟨_, walk_list, fun H' e' => ex_l ((e1.trans e2).trans e') hx⟩⟩
theorem ei_tup (h : Ev tl σ H (.ref a)) (hx : SqT K H a xs) : EvI (iTup K tl) σ H xs := fun H1 e1 R r => h H1 e1 _ fun H2 e2 => ⟨a, rfl, ⟨xs, ex_t (e1.trans e2) hx⟩, r _ H2 e2 ⟨_, walk_tup, fun H' e' => ex_t ((e1.trans e2).trans e') hx⟩⟩
/-- a source that is a fresh list -/
theorem ei_listP (h : EvP tl σ H fun v H' => ∃ p, v = .ref p ∧ H' p = some (.lst xs)) : EvI (iList K tl) σ H xs := fun H1 e1 R r => h H1 e1 _ fun v H2 e2 p => by
  obtain ⟨q, rfl, hq⟩ := p.now
  exact ⟨q, rfl, ⟨xs, SqL.of hq⟩, r _ H2 e2 ⟨_, walk_list, fun H' e' => SqL.of (e' _ _ hq)⟩⟩
theorem ei_rng1 {n : Nat} (h : EvA ta σ H [.int (n : Int)]) (hn : n ≤ 1000000) : EvI (iRng1 ta) σ H ((List.range n).map fun i : Nat => V.int (i : Int)) := fun H1 e1 R r => h H1 e1 _ fun H2 e2 => ⟨_, rfl, by omega, by omega, r _ H2 e2 ⟨_, by
  have w := walk_rng (lo := 0) (n := n)
  have e : ((List.range n).map fun i : Nat => V.int ((0 : Int) + (i : Int))) = (List.range n).map fun i : Nat => V.int (i : Int) := List.map_congr_left fun i _ => by rw [Int.zero_add]
  rw [e] at w
  exact w, fun _ _ => trivial⟩⟩
theorem ei_rng2 {lo hi : Int} (h : EvA ta σ H [.int lo, .int hi]) (h1 : -1000000 ≤ lo ∧ lo ≤ 1000000) (h2 : -1000000 ≤ hi ∧ hi ≤ 1000000) : EvI (iRng2 ta) σ H ((List.range (hi - lo).toNat).map fun i : Nat => V.int (lo + (i : Int))) := fun H1 e1 R r => h H1 e1 _ fun H2 e2 => ⟨_, _, rfl, ⟨by omega, by omega, by omega, by omega⟩, r _ H2 e2 ⟨_, walk_rng, fun _ _ => trivial⟩⟩
theorem ei_zip (h : EvA ta σ H [.ref a, .ref b]) (hx : SqL K H a xs) (hy : SqL K H b ys) (hl : xs.length = ys.length) : EvI2 (iZip K ta) σ H xs.length (fun i => xs[i]?) (fun i => ys[i]?) := fun H1 e1 R r => h H1 e1 _ fun H2 e2 => ⟨a, b, xs, ys, rfl, ex_l (e1.trans e2) hx, ex_l (e1.trans e2) hy, r _ H2 e2 ⟨_, walk_zip (by omega), fun H' e' => ⟨ex_l ((e1.trans e2).trans e') hx, ex_l ((e1.trans e2).trans e') hy⟩⟩⟩
theorem ei_enum (h : EvA ta σ H [.ref a]) (hx : SqL K H a xs) : EvI2 (iEnum K ta) σ H xs.length (fun i => some (.int (i : Nat))) (fun i => xs[i]?) := fun H1 e1 R r => h H1 e1 _ fun H2 e2 => ⟨a, xs, rfl, ex_l (e1.trans e2) hx, r _ H2 e2 ⟨_, walk_enum, fun H' e' => ex_l ((e1.trans e2).trans e') hx⟩⟩
end
/-- a fresh list of what P tells -/
def NewP {α : Type} (H : Hp) (as : List α) (P : α → V → Hp → Prop) (v : V) (H' : Hp) : Prop := ∃ p ys, v = .ref p ∧ H p = none ∧ H' p = some (.lst ys) ∧ Paired (fun a y => P a y H') as ys
theorem NewP.sta {α : Type} {H H' : Hp} {as : List α} {P : α → V → Hp → Prop} {v : V} (hP : ∀ a y H H', ExT H H' → P a y H → P a y H') (h : NewP H as P v H') : Sta (NewP H as P) v H' := fun H2 e => by
  obtain ⟨p, ys, h1, h2, h3, h4⟩ := h
  exact ⟨p, ys, h1, h2, e _ _ h3, h4.mono fun a b q => hP a b _ _ (Ex.t e) q⟩
theorem NewP.newL {α : Type} {H H' : Hp} {as : List α} {g : α → V} {v : V} (h : NewP H as (fun a y _ => y = g a) v H') : NewL H (as.map g) v H' := by
  obtain ⟨p, ys, h1, h2, h3, h4⟩ := h
  exact ⟨p, h1, h2, by rw [h3, paired_eq h4]⟩
theorem NewP.back {α : Type} {H H0 H' : Hp} {as : List α} {P : α → V → Hp → Prop} {v : V} (h : NewP H as P v H') (e : Ex H0 H) : NewP H0 as P v H' := by
  obtain ⟨p, ys, h1, h2, h3, h4⟩ := h
  exact ⟨p, ys, h1, fresh_back e h2, h3, h4⟩
theorem NewL.back {H H0 H' : Hp} {xs : List V} {v : V} (h : NewL H xs v H') (e : Ex H0 H) : NewL H0 xs v H' := by
  obtain ⟨p, h1, h2, h3⟩ := h
  exact ⟨p, h1, fresh_back e h2, h3⟩
section
variable {α : Type} {vs : List V} {as : List α} {R : α → V → Prop} {H : Hp} {σ : L2.St} {own : List Nat} {tt : TT} {te : TE} {j : Nat} {wi : TI}
theorem lc_evp (hi : EvI wi σ H vs) (hp : Paired R as vs) (f : α → Bool) (P : α → V → Hp → Prop) (hP : ∀ a y H H', ExT H H' → P a y H → P a y H') (hl : as.length ≤ 16000000) (hw : ∀ x, wipe ((wipe σ own).set j (some x)) own = wipe σ own)
    (ht : ∀ a v H1, Ex H H1 → a ∈ as → R a v → EvT tt ((wipe σ own).set j (some v)) H1 (f a))
    (he : ∀ a v H1, Ex H H1 → a ∈ as → R a v → f a = true → EvP te ((wipe σ own).set j (some v)) H1 (P a)) : EvP (tLc wi (gName j) tt te own) σ H (NewP H (as.filter f) P) := fun H1 e1 Q r => hi H1 e1 _ fun J H2 e2 s => by
  obtain ⟨G, w, hGs⟩ := s
  refine lc_main w hp hGs f P hP hl hw (fun a v H3 e3 ha hr => ht a v H3 ((e1.trans e2).trans e3) ha hr) (fun a v H3 e3 ha hr hf => he a v H3 ((e1.trans e2).trans e3) ha hr hf) fun D ys H3 hD e3 h3 h4 => r _ _ (e2.trans e3) (NewP.sta hP ⟨D, ys, rfl, ?_, h3, h4⟩)
  exact fresh_back (e1.trans e2) hD
def EvIX (wi : TI) (σ : L2.St) (H : Hp) (Pd : List V → Hp → Prop) : Prop := ∀ H1, Ex H H1 → ∀ R : It → Hp → Prop, (∀ J vs H2, Ex H1 H2 → Src J vs H2 → Pd vs H2 → R J H2) → wi σ H1 R
theorem eix_list {α : Type} {K : PySem.W.Frag} {σ : L2.St} {H H0 : Hp} {tl : TE} {as : List α} {R : α → V → Hp → Prop} (h : EvP tl σ H (NewP H0 as R)) : EvIX (iList K tl) σ H (fun vs H2 => Paired (fun a v => R a v H2) as vs) := fun H1 e1 Rr r => h H1 e1 _ fun v H2 e2 p => by
  obtain ⟨q, ys, rfl, _, hq, hp⟩ := p.now
  exact ⟨q, rfl, ⟨ys, SqL.of hq⟩, r _ ys H2 e2 ⟨_, walk_list, fun H' e' => SqL.of (e' _ _ hq)⟩ hp⟩
/-- the source told by what it holds -/
theorem lc_evpX {R : α → V → Hp → Prop} (hR : ∀ a v H H', Ex H H' → R a v H → R a v H') (hi : EvIX wi σ H (fun vs H2 => Paired (fun a v => R a v H2) as vs)) (f : α → Bool) (P : α → V → Hp → Prop) (hP : ∀ a y H H', ExT H H' → P a y H → P a y H') (hl : as.length ≤ 16000000) (hw : ∀ x, wipe ((wipe σ own).set j (some x)) own = wipe σ own)
    (ht : ∀ a v H1, Ex H H1 → a ∈ as → R a v H1 → EvT tt ((wipe σ own).set j (some v)) H1 (f a))
    (he : ∀ a v H1, Ex H H1 → a ∈ as → R a v H1 → f a = true → EvP te ((wipe σ own).set j (some v)) H1 (P a)) : EvP (tLc wi (gName j) tt te own) σ H (NewP H (as.filter f) P) := fun H1 e1 Q r => hi H1 e1 _ fun J vs H2 e2 s hp => by
  obtain ⟨G, w, hGs⟩ := s
  refine lc_main (R := fun a v => R a v H2) w hp hGs f P hP hl hw (fun a v H3 e3 ha hr => ht a v H3 ((e1.trans e2).trans e3) ha (hR _ _ _ _ e3 hr)) (fun a v H3 e3 ha hr hf => he a v H3 ((e1.trans e2).trans e3) ha (hR _ _ _ _ e3 hr) hf) fun D ys H3 hD e3 h3 h4 => r _ _ (e2.trans e3) (NewP.sta hP ⟨D, ys, rfl, ?_, h3, h4⟩)
  exact fresh_back (e1.trans e2) hD
/-- no test, values by a function, the source by a function -/
theorem lc_map {rep : α → V} (hi : EvI wi σ H (as.map rep)) (g : α → V) (hl : as.length ≤ 16000000) (hw : ∀ x, wipe ((wipe σ own).set j (some x)) own = wipe σ own)
    (he : ∀ a H1, Ex H H1 → a ∈ as → Ev te ((wipe σ own).set j (some (rep a))) H1 (g a)) : EvP (tLc wi (gName j) tYes te own) σ H (NewL H (as.map g)) := by
  have h := lc_evp (tt := tYes) (R := fun a v => v = rep a) hi (paired_map as fun _ _ => rfl) (fun _ => true) (fun a v _ => v = g a) (fun _ _ _ _ _ h => h) hl hw (fun _ _ _ _ _ _ => et_yes) fun a v H1 e1 ha hr _ => by
    rw [hr]
    exact evp (he a H1 e1 ha)
  rw [show (as.filter fun _ => true) = as from List.filter_eq_self.mpr fun _ _ => rfl] at h
  exact fun H1 e1 Q r => h H1 e1 Q fun v H2 e2 p => r v H2 e2 (NewL.sta p.now.newL)
/-- values by a function, a test -/
theorem lc_fmap {rep : α → V} (hi : EvI wi σ H (as.map rep)) (f : α → Bool) (g : α → V) (hl : as.length ≤ 16000000) (hw : ∀ x, wipe ((wipe σ own).set j (some x)) own = wipe σ own)
    (ht : ∀ a H1, Ex H H1 → a ∈ as → EvT tt ((wipe σ own).set j (some (rep a))) H1 (f a))
    (he : ∀ a H1, Ex H H1 → a ∈ as → f a = true → Ev te ((wipe σ own).set j (some (rep a))) H1 (g a)) : EvP (tLc wi (gName j) tt te own) σ H (NewL H ((as.filter f).map g)) := by
  have h := lc_evp (tt := tt) (R := fun a v => v = rep a) hi (paired_map as fun _ _ => rfl) f (fun a v _ => v = g a) (fun _ _ _ _ _ h => h) hl hw (fun a v H1 e1 ha hr => by
    rw [hr]
    exact ht a H1 e1 ha) fun a v H1 e1 ha hr hf => by
    rw [hr]
    exact evp (he a H1 e1 ha hf)
  exact fun H1 e1 Q r => h H1 e1 Q fun v H2 e2 p => r v H2 e2 (NewL.sta p.now.newL)
theorem lc_pairP {K : PySem.W.Frag} {n i1 i2 : Nat} {fx fy : Nat → Option V} (hi : EvI2 wi σ H n fx fy) (hn : as.length = n) (f : α → Bool) (g : α → V) (hl : as.length ≤ 16000000) (hw : ∀ x y, wipe (((wipe σ own).set i1 (some x)).set i2 (some y)) own = wipe σ own)
    (ht : ∀ i a x y H1, Ex H H1 → as[i]? = some a → fx i = some x → fy i = some y → EvT tt (((wipe σ own).set i1 (some x)).set i2 (some y)) H1 (f a))
    (he : ∀ i a x y H1, Ex H H1 → as[i]? = some a → fx i = some x → fy i = some y → f a = true → Ev te (((wipe σ own).set i1 (some x)).set i2 (some y)) H1 (g a)) : EvP (tLc wi (gTup K 2 (gCons (gName i1) (gCons (gName i2) gNil))) tt te own) σ H (NewL H ((as.filter f).map g)) := fun H1 e1 Q r => hi H1 e1 _ fun J H2 e2 s => by
  obtain ⟨G, w, hGs⟩ := s
  refine lc_pair w hn hGs f (fun a y _ => y = g a) (fun _ _ _ _ _ h => h) hl hw (fun i a x y H3 e3 h1 h2 h3 => ht i a x y H3 ((e1.trans e2).trans e3) h1 h2 h3) (fun i a x y H3 e3 h1 h2 h3 hf => evp (he i a x y H3 ((e1.trans e2).trans e3) h1 h2 h3 hf)) fun D ys H3 hD e3 h3 h4 => r _ _ (e2.trans e3) (NewL.sta ⟨D, rfl, fresh_back (e1.trans e2) hD, ?_⟩)
  rw [h3, paired_eq h4]
end
theorem lc_mapW {α β : Type} {as : List α} {H : Hp} {σ : L2.St} {own : List Nat} {te : TE} {j : Nat} {wi : TI} {rep : α → V} (hi : EvI wi σ H (as.map rep)) (w : β → V) (g : α → β) (hl : as.length ≤ 16000000) (hw : ∀ x, wipe ((wipe σ own).set j (some x)) own = wipe σ own)
    (he : ∀ a H1, Ex H H1 → a ∈ as → Ev te ((wipe σ own).set j (some (rep a))) H1 (w (g a))) : EvP (tLc wi (gName j) tYes te own) σ H (NewL H ((as.map g).map w)) := by
  have h := lc_map hi (fun a => w (g a)) hl hw he
  rw [List.map_map]
  exact h
theorem lc_fmapR {α β : Type} {vs : List V} {as : List α} {R : α → V → Prop} {H : Hp} {σ : L2.St} {own : List Nat} {tt : TT} {te : TE} {j : Nat} {wi : TI} (hi : EvI wi σ H vs) (hp : Paired R as vs) (w : β → V) (f : α → Bool) (g : α → β) (hl : as.length ≤ 16000000) (hw : ∀ x, wipe ((wipe σ own).set j (some x)) own = wipe σ own)
    (ht : ∀ a v H1, Ex H H1 → a ∈ as → R a v → EvT tt ((wipe σ own).set j (some v)) H1 (f a))
    (he : ∀ a v H1, Ex H H1 → a ∈ as → R a v → f a = true → Ev te ((wipe σ own).set j (some v)) H1 (w (g a))) : EvP (tLc wi (gName j) tt te own) σ H (NewL H (((as.filter f).map g).map w)) := by
  have h := lc_evp (tt := tt) hi hp f (fun a v _ => v = w (g a)) (fun _ _ _ _ _ h => h) hl hw ht fun a v H1 e1 ha hr hf => evp (he a v H1 e1 ha hr hf)
  rw [List.map_map]
  exact fun H1 e1 Q r => h H1 e1 Q fun v H2 e2 p => r v H2 e2 (NewL.sta p.now.newL)
theorem lc_mapR {α β : Type} {vs : List V} {as : List α} {R : α → V → Prop} {H : Hp} {σ : L2.St} {own : List Nat} {te : TE} {j : Nat} {wi : TI} (hi : EvI wi σ H vs) (hp : Paired R as vs) (w : β → V) (g : α → β) (hl : as.length ≤ 16000000) (hw : ∀ x, wipe ((wipe σ own).set j (some x)) own = wipe σ own)
    (he : ∀ a v H1, Ex H H1 → a ∈ as → R a v → Ev te ((wipe σ own).set j (some v)) H1 (w (g a))) : EvP (tLc wi (gName j) tYes te own) σ H (NewL H ((as.map g).map w)) := by
  have h := lc_fmapR (tt := tYes) hi hp w (fun _ => true) g hl hw (fun _ _ _ _ _ _ => et_yes) fun a v H1 e1 ha hr _ => he a v H1 e1 ha hr
  rw [show (as.filter fun _ => true) = as from List.filter_eq_self.mpr fun _ _ => rfl] at h
  exact h
/-! ### calls of built-ins on what was just made -/
section
variable {K : PySem.W.Frag} {σ : L2.St} {H : Hp} {te ta tb : TE} {tt tu : TT} {Pp : V → Hp → Prop}
/-- any call of one argument that is told by P -/
theorem ev_cb1 {r : List V → Hp → VK → Prop} {P P' : V → Hp → Prop} (h : EvP te σ H P) (hr : ∀ v H1, Ex H H1 → Sta P v H1 → ∀ Q : VK, Ret H1 P' Q → r [v] H1 Q) : EvP (tCB r (tCons te tNil)) σ H P' := fun H1 e1 Q q => h H1 e1 _ fun v H2 e2 p => hr v H2 (e1.trans e2) p Q (q.back e2)
theorem ev_cbA {r : List V → Hp → VK → Prop} {t : TA} {vs : List V} {P' : V → Hp → Prop} (h : EvA t σ H vs) (hr : ∀ H1, Ex H H1 → ∀ Q : VK, Ret H1 P' Q → r vs H1 Q) : EvP (tCB r t) σ H P' := fun H1 e1 Q q => h H1 e1 _ fun H2 e2 => hr H2 (e1.trans e2) Q (q.back e2)
theorem ev_all {bs : List Bool} (h : EvP te σ H (NewL H (bs.map V.bl))) : Ev (tCB (rAll K) (tCons te tNil)) σ H (.bl (bs.all id)) := fun H1 e1 Q q => h H1 e1 _ fun v H2 e2 p => by
  obtain ⟨a, rfl, _, ha⟩ := p.now
  exact ⟨a, bs, rfl, SqL.of ha, q H2 e2⟩
theorem ev_any {bs : List Bool} (h : EvP te σ H (NewL H (bs.map V.bl))) : Ev (tCB (rAny K) (tCons te tNil)) σ H (.bl (bs.any id)) := fun H1 e1 Q q => h H1 e1 _ fun v H2 e2 p => by
  obtain ⟨a, rfl, _, ha⟩ := p.now
  exact ⟨a, bs, rfl, SqL.of ha, q H2 e2⟩
theorem ev_sum {ns : List Int} (h : EvP te σ H (NewL H (ns.map V.int))) : Ev (tCB (rSum K) (tCons te tNil)) σ H (.int ns.sum) := fun H1 e1 Q q => h H1 e1 _ fun v H2 e2 p => by
  obtain ⟨a, rfl, _, ha⟩ := p.now
  exact ⟨a, ns, rfl, SqL.of ha, q H2 e2⟩
theorem evp_opP {r : R2} {y : V} {P P' : V → Hp → Prop} (ha : EvP ta σ H P) (hb : Ev tb σ H y) (hr : ∀ v H1, Ex H H1 → Sta P v H1 → ∀ Q : VK, Ret H1 P' Q → r v y H1 Q) : EvP (tOp r ta tb) σ H P' := fun H1 e1 Q q => ha H1 e1 _ fun v H2 e2 p => hb H2 (e1.trans e2) _ fun H3 e3 => hr v H3 ((e1.trans e2).trans e3) (p.on e3) Q (q.back (e2.trans e3))
theorem evp_opR {r : R2} {x : V} {P P' : V → Hp → Prop} (ha : Ev ta σ H x) (hb : EvP tb σ H P) (hr : ∀ v H1, Ex H H1 → Sta P v H1 → ∀ Q : VK, Ret H1 P' Q → r x v H1 Q) : EvP (tOp r ta tb) σ H P' := fun H1 e1 Q q => ha H1 e1 _ fun H2 e2 => hb H2 (e1.trans e2) _ fun v H3 e3 p => hr v H3 ((e1.trans e2).trans e3) p Q (q.back (e2.trans e3))
theorem evp_op {r : R2} {x y : V} {P' : V → Hp → Prop} (ha : Ev ta σ H x) (hb : Ev tb σ H y) (hr : ∀ H1, Ex H H1 → ∀ Q : VK, Ret H1 P' Q → r x y H1 Q) : EvP (tOp r ta tb) σ H P' := fun H1 e1 Q q => ha H1 e1 _ fun H2 e2 => hb H2 (e1.trans e2) _ fun H3 e3 => hr H3 ((e1.trans e2).trans e3) Q (q.back (e2.trans e3))
/-- a call of a def -/
theorem ev_callA {sp : Sp} {dvs vs : List V} {E : XK} {t : TA} {P : V → Hp → Prop} (h : EvA t σ H vs) (hs : ∀ H1, Ex H H1 → ∀ Q : VK, Ret H1 P Q → sp (vs ++ dvs) H1 Q E) : EvP (tCall sp dvs E t) σ H P := fun H1 e1 Q q => h H1 e1 _ fun H2 e2 => hs H2 (e1.trans e2) Q (q.back e2)
/-- its value is known -/
theorem ev_callV {sp : Sp} {dvs vs : List V} {E : XK} {t : TA} {z : V} (h : EvA t σ H vs) (hs : ∀ H1, Ex H H1 → ∀ Q : VK, Ret H1 (fun v _ => v = z) Q → sp (vs ++ dvs) H1 Q E) : Ev (tCall sp dvs E t) σ H z := (ev_callA h hs).ev
theorem ev_chain {r r' : R2} {ta tb tc : TE} {x y z : V} {b1 b2 : Bool} (ha : Ev ta σ H x) (hb : Ev tb σ H y) (h1 : RV r x y H (.bl b1)) (hc : b1 = true → Ev tc σ H z) (h2 : b1 = true → RV r' y z H (.bl b2)) : Ev (tChain r r' ta tb tc) σ H (.bl (b1 && b2)) := fun H1 e1 Q q =>
  ha H1 e1 _ fun H2 e2 => hb H2 (e1.trans e2) _ fun H3 e3 => h1 H3 ((e1.trans e2).trans e3) _ fun H4 e4 => ⟨b1, rfl, by
    cases b1 with
    | true => exact hc rfl H4 (((e1.trans e2).trans e3).trans e4) _ fun H5 e5 => h2 rfl H5 ((((e1.trans e2).trans e3).trans e4).trans e5) Q fun H6 e6 => q H6 ((((e2.trans e3).trans e4).trans e5).trans e6)
    | false => exact q H4 ((e2.trans e3).trans e4)⟩
theorem ev_lenS {p : Addr} {xs : List V} (ha : Ev ta σ H (.ref p)) (h : SqL K H p xs ∨ SqT K H p xs) : Ev (tCB (rLenS K) (tCons ta tNil)) σ H (.int (xs.length : Int)) := fun H1 e Q q =>
  ha H1 e _ fun H2 e2 => ⟨p, xs, rfl, by
    rcases h with h | h
    · exact .inl (ex_l (e.trans e2) h)
    · exact .inr (ex_t (e.trans e2) h), q H2 e2⟩
theorem ev_lenP {xs : List V} (ha : EvP ta σ H (NewL H xs)) : Ev (tCB (rLenS K) (tCons ta tNil)) σ H (.int (xs.length : Int)) := fun H1 e Q q =>
  ha H1 e _ fun v H2 e2 p => by
    obtain ⟨a, rfl, _, h⟩ := p.now
    exact ⟨a, xs, rfl, .inl (SqL.of h), q H2 e2⟩
theorem ev_isi {tx tc : TE} {v : V} {n : String} {b : Bool} (ha : Ev tx σ H v) (hc : Ev tc σ H (.ty n)) (h : ∀ H1, Ex H H1 → ∃ t u, ClsV (.ty n) u ∧ TyX K H1 v t ∧ PySem.W.kitOne K t u = some b) : Ev (tCB (rIsi K) (tCons tx (tCons tc tNil))) σ H (.bl b) := fun H1 e1 Q q =>
  ha H1 e1 _ fun H2 e2 => hc H2 (e1.trans e2) _ fun H3 e3 => by
    obtain ⟨t, u, h1, h2, h3⟩ := h H3 ((e1.trans e2).trans e3)
    exact ⟨v, .ty n, t, u, b, rfl, h1, h2, h3, q H3 (e2.trans e3)⟩
theorem ev_bl {ta : TE} {b c : Bool} (h : Ev ta σ H (.bl b)) (e : b = c) : Ev ta σ H (.bl c) := by
  rw [← e]
  exact h
theorem et_test' {te : TE} {b : Bool} (h : Ev te σ H (.bl b)) : EvT (tTest te) σ H b := et_test h
theorem evp_if {b : Bool} {P : V → Hp → Prop} (h : EvT tt σ H b) (h1 : b = true → EvP ta σ H P) (h2 : b = false → EvP tb σ H P) : EvP (tIf tt ta tb) σ H P := fun H1 e Q q => h H1 e _ fun H2 e2 => by
  cases b with
  | true => exact h1 rfl H2 (e.trans e2) Q (q.back e2)
  | false => exact h2 rfl H2 (e.trans e2) Q (q.back e2)
theorem rv_mod {i p : Int} (hp : 0 < p) : RV (rI (fun _ j => 0 < j) fun i j => .int (i % j)) (.int i) (.int p) H (.int (i % p)) := rv_I hp
theorem rv_b {g : Int → Int → V} {i j : Int} {b : Bool} (h : g i j = .bl b) : RV (rI0 g) (.int i) (.int j) H (.bl b) := by
  rw [← h]
  exact rv_I0
theorem evp_tup2 {ta tb : TE} {P1 : V → Hp → Prop} {y : V} (ha : EvP ta σ H P1) (hb : Ev tb σ H y) : EvP (tTup (tCons ta (tCons tb tNil))) σ H (fun v H' => ∃ p u, v = .ref p ∧ H p = none ∧ H' p = some (.tup [u, y]) ∧ P1 u H') := fun H1 e1 Q q =>
  ha H1 e1 _ fun u H2 e2 pu => hb H2 (e1.trans e2) _ fun H3 e3 => ⟨by show 2 ≤ sizeLine; decide, fun p hp => q _ _ ((e2.trans e3).trans (Ex.new hp)) fun H4 e4 => ⟨p, u, rfl, fresh_back ((e1.trans e2).trans e3) hp, e4 _ _ upd_same, pu H4 ((e3.trans (Ex.new hp)).trans e4)⟩⟩
theorem evp_tup2r {ta tb : TE} {P1 : V → Hp → Prop} {x : V} (ha : Ev ta σ H x) (hb : EvP tb σ H P1) : EvP (tTup (tCons ta (tCons tb tNil))) σ H (fun v H' => ∃ p u, v = .ref p ∧ H p = none ∧ H' p = some (.tup [x, u]) ∧ P1 u H') := fun H1 e1 Q q =>
  ha H1 e1 _ fun H2 e2 => hb H2 (e1.trans e2) _ fun u H3 e3 pu => ⟨by show 2 ≤ sizeLine; decide, fun p hp => q _ _ ((e2.trans e3).trans (Ex.new hp)) fun H4 e4 => ⟨p, u, rfl, fresh_back ((e1.trans e2).trans e3) hp, e4 _ _ upd_same, pu H4 ((Ex.new hp).trans e4)⟩⟩
/-- statements -/
theorem q_asgP {i : Nat} {tz : TS} {D : Ends} {P : V → Hp → Prop} (h : EvP te σ H P) (k : ∀ v H1, Ex H H1 → Sta P v H1 → tz D (σ.set i (some v)) H1) : tSeq (tAsg te (gName i)) tz D σ H := h H (Ex.refl H) _ fun v H1 e p => k v H1 e p
theorem s_asgP {i : Nat} {D : Ends} {P : V → Hp → Prop} (h : EvP te σ H P) (k : ∀ v H1, Ex H H1 → Sta P v H1 → D.nx (σ.set i (some v)) H1) : tAsg te (gName i) D σ H := h H (Ex.refl H) _ fun v H1 e p => k v H1 e p
/-- int(e), e whole -/
def rInt1 : List V → Hp → VK → Prop := fun xs H Q => (∃ i, xs = [.int i] ∧ Q (.int i) H) ∨ ∃ k, xs = [.bl k] ∧ Q (.int (if k then 1 else 0)) H
theorem ev_int1 {te : TE} {i : Int} (h : Ev te σ H (.int i)) : Ev (tCB rInt1 (tCons te tNil)) σ H (.int i) := fun H1 e1 Q q => h H1 e1 _ fun H2 e2 => .inl ⟨i, rfl, q H2 e2⟩
theorem ev_intB {te : TE} {b : Bool} (h : Ev te σ H (.bl b)) : Ev (tCB rInt1 (tCons te tNil)) σ H (.int (if b then 1 else 0)) := fun H1 e1 Q q => h H1 e1 _ fun H2 e2 => .inr ⟨b, rfl, q H2 e2⟩
theorem s_retP {D : Ends} {P : V → Hp → Prop} (h : EvP te σ H P) (k : ∀ v H1, Ex H H1 → Sta P v H1 → D.rt v H1) : tRet te D σ H := h H (Ex.refl H) _ fun v H1 e p => k v H1 e p
end
/-! ### lots: tuples of places -/
abbrev nV (n : Nat) : V := .int (n : Int)
def LotAt (l : List Nat) (v : V) (H : Hp) : Prop := ∃ a, v = .ref a ∧ H a = some (.tup (l.map nV))
def RowAt (l : List Int) (v : V) (H : Hp) : Prop := ∃ a, v = .ref a ∧ H a = some (.tup (l.map V.int))
theorem LotAt.t {l : List Nat} {v : V} {H H' : Hp} (e : ExT H H') (h : LotAt l v H) : LotAt l v H' := by
  obtain ⟨a, rfl, h⟩ := h
  exact ⟨a, rfl, e a _ h rfl⟩
theorem RowAt.t {l : List Int} {v : V} {H H' : Hp} (e : ExT H H') (h : RowAt l v H) : RowAt l v H' := by
  obtain ⟨a, rfl, h⟩ := h
  exact ⟨a, rfl, e a _ h rfl⟩
theorem LotAt.sta {l : List Nat} {v : V} {H : Hp} (h : LotAt l v H) : Sta (LotAt l) v H := fun _ e => h.t (Ex.t e)
theorem RowAt.sta {l : List Int} {v : V} {H : Hp} (h : RowAt l v H) : Sta (RowAt l) v H := fun _ e => h.t (Ex.t e)
theorem flat_n (l : List Nat) : (l.map nV).all flatV = true := by
  rw [List.all_map]
  exact List.all_eq_true.mpr fun _ _ => rfl
theorem inV_n {n : Nat} : ∀ l : List Nat, inV (nV n) (l.map nV) = decide (n ∈ l)
  | [] => by simp [inV]
  | a :: r => by
    have ih := inV_n (n := n) r
    unfold inV at ih ⊢
    rw [List.map_cons, List.any_cons, ih]
    have e : eqV (nV a) (nV n) = decide (n = a) := by
      show decide ((a : Int) = (n : Int)) = decide (n = a)
      by_cases h : n = a
      · rw [decide_eq_true h, decide_eq_true (by rw [h])]
      · rw [decide_eq_false h, decide_eq_false (by omega)]
    rw [e]
    by_cases h : n = a
    · subst h
      simp
    · simp [h]
end Rk
end

section
set_option Elab.async false
set_option linter.all false
set_option maxRecDepth 100000
set_option maxHeartbeats 2000000
namespace Wk
open PySem PySem.Spec PyProof.Rows L2 Evl Rk
def top (i : Nat) : Stmt := PySem.Challenge.pw_lightfirst_k63_whole_lightest_safe_lots.main.body.getD i (.Pass ⟨0, 0, 0, 0⟩)
abbrev s_is_integer : Stmt := top 3
abbrev n_is_integer : List Str := ["thing"]
theorem sc_is_integer : FnScope n_is_integer ["thing"] (defScope s_is_integer) := ⟨rfl, rfl, rfl, by decide +kernel, rfl, by decide +kernel, by decide +kernel⟩
abbrev s_is_within : Stmt := top 4
abbrev n_is_within : List Str := ["thing", "least", "most"]
theorem sc_is_within : FnScope n_is_within ["thing", "least", "most"] (defScope s_is_within) := ⟨rfl, rfl, rfl, by decide +kernel, rfl, by decide +kernel, by decide +kernel⟩
abbrev s_is_pair : Stmt := top 5
abbrev n_is_pair : List Str := ["thing"]
theorem sc_is_pair : FnScope n_is_pair ["thing"] (defScope s_is_pair) := ⟨rfl, rfl, rfl, by decide +kernel, rfl, by decide +kernel, by decide +kernel⟩
abbrev s_is_lot : Stmt := top 6
abbrev n_is_lot : List Str := ["thing", "many", "last", "number"]
theorem sc_is_lot : FnScope n_is_lot ["thing", "many"] (defScope s_is_lot) := ⟨rfl, rfl, rfl, by decide +kernel, rfl, by decide +kernel, by decide +kernel⟩
abbrev s_is_prime : Stmt := top 17
abbrev n_is_prime : List Str := ["thing", "other"]
theorem sc_is_prime : FnScope n_is_prime ["thing"] (defScope s_is_prime) := ⟨rfl, rfl, rfl, by decide +kernel, rfl, by decide +kernel, by decide +kernel⟩
abbrev s_is_sum : Stmt := top 18
abbrev n_is_sum : List Str := ["prime", "thing", "value"]
theorem sc_is_sum : FnScope n_is_sum ["prime", "thing"] (defScope s_is_sum) := ⟨rfl, rfl, rfl, by decide +kernel, rfl, by decide +kernel, by decide +kernel⟩
abbrev s_inverse : Stmt := top 19
abbrev n_inverse : List Str := ["prime", "value", "one"]
theorem sc_inverse : FnScope n_inverse ["prime", "value"] (defScope s_inverse) := ⟨rfl, rfl, rfl, by decide +kernel, rfl, by decide +kernel, by decide +kernel⟩
abbrev s_less_times : Stmt := top 20
abbrev n_less_times : List Str := ["prime", "row", "times", "other", "one", "two"]
theorem sc_less_times : FnScope n_less_times ["prime", "row", "times", "other"] (defScope s_less_times) := ⟨rfl, rfl, rfl, by decide +kernel, rfl, by decide +kernel, by decide +kernel⟩
abbrev s_first_place : Stmt := top 21
abbrev n_first_place : List Str := ["row", "found", "place", "value"]
theorem sc_first_place : FnScope n_first_place ["row"] (defScope s_first_place) := ⟨rfl, rfl, rfl, by decide +kernel, rfl, by decide +kernel, by decide +kernel⟩
abbrev s_Steps_init : Stmt := inClass (top 22) 0
abbrev n_Steps_init : List Str := ["self", "prime"]
theorem sc_Steps_init : FnScope n_Steps_init ["self", "prime"] (defScope s_Steps_init) := ⟨rfl, rfl, rfl, by decide +kernel, rfl, by decide +kernel, by decide +kernel⟩
abbrev s_Steps_fallen : Stmt := inClass (top 22) 1
abbrev n_Steps_fallen : List Str := ["self", "row", "made", "place", "times", "own", "parts", "name"]
theorem sc_Steps_fallen : FnScope n_Steps_fallen ["self", "row", "made"] (defScope s_Steps_fallen) := ⟨rfl, rfl, rfl, by decide +kernel, rfl, by decide +kernel, by decide +kernel⟩
abbrev s_Steps_take : Stmt := inClass (top 22) 3
abbrev n_Steps_take : List Str := ["self", "name", "row", "left", "made", "place", "times", "value", "one", "rows", "other"]
theorem sc_Steps_take : FnScope n_Steps_take ["self", "name", "row"] (defScope s_Steps_take) := ⟨rfl, rfl, rfl, by decide +kernel, rfl, by decide +kernel, by decide +kernel⟩
abbrev s_Steps_cleared : Stmt := inClass (top 22) 4
abbrev n_Steps_cleared : List Str := ["self", "pair", "place", "left", "made", "own", "parts", "many", "one"]
theorem sc_Steps_cleared : FnScope n_Steps_cleared ["self", "pair", "place", "left", "made"] (defScope s_Steps_cleared) := ⟨rfl, rfl, rfl, by decide +kernel, rfl, by decide +kernel, by decide +kernel⟩
abbrev s_Web_init : Stmt := inClass (top 27) 0
abbrev n_Web_init : List Str := ["self", "prime", "many", "pieces", "number", "piece"]
theorem sc_Web_init : FnScope n_Web_init ["self", "prime", "many", "pieces"] (defScope s_Web_init) := ⟨rfl, rfl, rfl, by decide +kernel, rfl, by decide +kernel, by decide +kernel⟩
abbrev s_is_piece : Stmt := top 28
abbrev n_is_piece : List Str := ["prime", "many", "thing"]
theorem sc_is_piece : FnScope n_is_piece ["prime", "many", "thing"] (defScope s_is_piece) := ⟨rfl, rfl, rfl, by decide +kernel, rfl, by decide +kernel, by decide +kernel⟩
abbrev s_is_lot_of : Stmt := top 29
abbrev n_is_lot_of : List Str := ["web", "thing"]
theorem sc_is_lot_of : FnScope n_is_lot_of ["web", "thing"] (defScope s_is_lot_of) := ⟨rfl, rfl, rfl, by decide +kernel, rfl, by decide +kernel, by decide +kernel⟩
abbrev s_check_lot : Stmt := top 30
abbrev n_check_lot : List Str := ["web", "lot"]
theorem sc_check_lot : FnScope n_check_lot ["web", "lot"] (defScope s_check_lot) := ⟨rfl, rfl, rfl, by decide +kernel, rfl, by decide +kernel, by decide +kernel⟩
abbrev s_steps_in : Stmt := top 31
abbrev n_steps_in : List Str := ["web", "lot", "steps", "piece"]
theorem sc_steps_in : FnScope n_steps_in ["web", "lot"] (defScope s_steps_in) := ⟨rfl, rfl, rfl, by decide +kernel, rfl, by decide +kernel, by decide +kernel⟩
abbrev s_rank_in : Stmt := top 32
abbrev n_rank_in : List Str := ["web", "lot"]
theorem sc_rank_in : FnScope n_rank_in ["web", "lot"] (defScope s_rank_in) := ⟨rfl, rfl, rfl, by decide +kernel, rfl, by decide +kernel, by decide +kernel⟩
abbrev s_size_in : Stmt := top 33
abbrev n_size_in : List Str := ["web", "lot", "piece"]
theorem sc_size_in : FnScope n_size_in ["web", "lot"] (defScope s_size_in) := ⟨rfl, rfl, rfl, by decide +kernel, rfl, by decide +kernel, by decide +kernel⟩
abbrev s_left_of : Stmt := top 37
abbrev n_left_of : List Str := ["lot", "lost", "piece"]
theorem sc_left_of : FnScope n_left_of ["lot", "lost"] (defScope s_left_of) := ⟨rfl, rfl, rfl, by decide +kernel, rfl, by decide +kernel, by decide +kernel⟩
abbrev s_check_few : Stmt := top 38
abbrev n_check_few : List Str := ["lot"]
theorem sc_check_few : FnScope n_check_few ["lot"] (defScope s_check_few) := ⟨rfl, rfl, rfl, by decide +kernel, rfl, by decide +kernel, by decide +kernel⟩
abbrev s_spans_all : Stmt := top 39
abbrev n_spans_all : List Str := ["web", "lot"]
theorem sc_spans_all : FnScope n_spans_all ["web", "lot"] (defScope s_spans_all) := ⟨rfl, rfl, rfl, by decide +kernel, rfl, by decide +kernel, by decide +kernel⟩
abbrev s_harms_of : Stmt := top 40
abbrev n_harms_of : List Str := ["web", "lot", "found", "many", "lost", "piece", "harm"]
theorem sc_harms_of : FnScope n_harms_of ["web", "lot"] (defScope s_harms_of) := ⟨rfl, rfl, rfl, by decide +kernel, rfl, by decide +kernel, by decide +kernel⟩
abbrev s_harms : Stmt := top 41
abbrev n_harms : List Str := ["web", "lot"]
theorem sc_harms : FnScope n_harms ["web", "lot"] (defScope s_harms) := ⟨rfl, rfl, rfl, by decide +kernel, rfl, by decide +kernel, by decide +kernel⟩
abbrev s_safety : Stmt := top 42
abbrev n_safety : List Str := ["web", "lot"]
theorem sc_safety : FnScope n_safety ["web", "lot"] (defScope s_safety) := ⟨rfl, rfl, rfl, by decide +kernel, rfl, by decide +kernel, by decide +kernel⟩
abbrev s_check_safe : Stmt := top 43
abbrev n_check_safe : List Str := ["thing"]
theorem sc_check_safe : FnScope n_check_safe ["thing"] (defScope s_check_safe) := ⟨rfl, rfl, rfl, by decide +kernel, rfl, by decide +kernel, by decide +kernel⟩
abbrev s_is_safe : Stmt := top 44
abbrev n_is_safe : List Str := ["web", "lot", "k"]
theorem sc_is_safe : FnScope n_is_safe ["web", "lot", "k"] (defScope s_is_safe) := ⟨rfl, rfl, rfl, by decide +kernel, rfl, by decide +kernel, by decide +kernel⟩
abbrev s_every : Stmt := top 45
abbrev n_every : List Str := ["web"]
theorem sc_every : FnScope n_every ["web"] (defScope s_every) := ⟨rfl, rfl, rfl, by decide +kernel, rfl, by decide +kernel, by decide +kernel⟩
abbrev s_meets_all : Stmt := top 46
abbrev n_meets_all : List Str := ["lot", "cuts", "k", "piece", "cut"]
theorem sc_meets_all : FnScope n_meets_all ["lot", "cuts", "k"] (defScope s_meets_all) := ⟨rfl, rfl, rfl, by decide +kernel, rfl, by decide +kernel, by decide +kernel⟩
abbrev s_all_lots : Stmt := top 47
abbrev n_all_lots : List Str := ["many", "found", "size"]
theorem sc_all_lots : FnScope n_all_lots ["many"] (defScope s_all_lots) := ⟨rfl, rfl, rfl, by decide +kernel, rfl, by decide +kernel, by decide +kernel⟩
abbrev s_lightest_safe : Stmt := top 48
abbrev n_lightest_safe : List Str := ["web", "k", "cuts", "good", "lot", "least"]
theorem sc_lightest_safe : FnScope n_lightest_safe ["web", "k"] (defScope s_lightest_safe) := ⟨rfl, rfl, rfl, by decide +kernel, rfl, by decide +kernel, by decide +kernel⟩
abbrev s__law_deck : Stmt := top 50
abbrev n__law_deck : List Str := ["_law_script", "_law_seed", "_law_cell"]
theorem sc__law_deck : FnScope n__law_deck ["_law_script"] (defScope s__law_deck) := ⟨rfl, rfl, rfl, by decide +kernel, rfl, by decide +kernel, by decide +kernel⟩
abbrev s__law_mixed : Stmt := top 51
abbrev n__law_mixed : List Str := ["_law_cell", "_law_turn", "_law_number"]
theorem sc__law_mixed : FnScope n__law_mixed ["_law_cell", "_law_turn"] (defScope s__law_mixed) := ⟨rfl, rfl, rfl, by decide +kernel, rfl, by decide +kernel, by decide +kernel⟩
abbrev s__law_draw : Stmt := top 52
abbrev n__law_draw : List Str := ["_law_deck_here", "_law_many", "_law_cell", "_law_found"]
theorem sc__law_draw : FnScope n__law_draw ["_law_deck_here", "_law_many"] (defScope s__law_draw) := ⟨rfl, rfl, rfl, by decide +kernel, rfl, by decide +kernel, by decide +kernel⟩
abbrev s__law_rank : Stmt := top 53
abbrev n__law_rank : List Str := ["_law_prime", "_law_sums_here", "_law_rows", "_law_one", "_law_row", "_law_place", "_law_base", "_law_first", "_law_second", "_law_k", "_law_lead"]
theorem sc__law_rank : FnScope n__law_rank ["_law_prime", "_law_sums_here"] (defScope s__law_rank) := ⟨rfl, rfl, rfl, by decide +kernel, rfl, by decide +kernel, by decide +kernel⟩
abbrev s__law_sums : Stmt := top 54
abbrev n__law_sums : List Str := ["_law_web_here", "_law_lot_here", "_law_piece"]
theorem sc__law_sums : FnScope n__law_sums ["_law_web_here", "_law_lot_here"] (defScope s__law_sums) := ⟨rfl, rfl, rfl, by decide +kernel, rfl, by decide +kernel, by decide +kernel⟩
abbrev s__law_spans : Stmt := top 55
abbrev n__law_spans : List Str := ["_law_web_here", "_law_lot_here"]
theorem sc__law_spans : FnScope n__law_spans ["_law_web_here", "_law_lot_here"] (defScope s__law_spans) := ⟨rfl, rfl, rfl, by decide +kernel, rfl, by decide +kernel, by decide +kernel⟩
abbrev s__law_size : Stmt := top 56
abbrev n__law_size : List Str := ["_law_web_here", "_law_lot_here", "_law_piece"]
theorem sc__law_size : FnScope n__law_size ["_law_web_here", "_law_lot_here"] (defScope s__law_size) := ⟨rfl, rfl, rfl, by decide +kernel, rfl, by decide +kernel, by decide +kernel⟩
abbrev s__law_left : Stmt := top 57
abbrev n__law_left : List Str := ["_law_lot_here", "_law_lost", "_law_piece"]
theorem sc__law_left : FnScope n__law_left ["_law_lot_here", "_law_lost"] (defScope s__law_left) := ⟨rfl, rfl, rfl, by decide +kernel, rfl, by decide +kernel, by decide +kernel⟩
abbrev s__law_sum : Stmt := top 58
abbrev n__law_sum : List Str := ["_law_deck_here", "_law_prime", "_law_many", "_law_found", "_law_k", "_law_kind", "_law_at"]
theorem sc__law_sum : FnScope n__law_sum ["_law_deck_here", "_law_prime", "_law_many"] (defScope s__law_sum) := ⟨rfl, rfl, rfl, by decide +kernel, rfl, by decide +kernel, by decide +kernel⟩
abbrev s__law_web : Stmt := top 59
abbrev n__law_web : List Str := ["_law_deck_here", "_law_most", "_law_more", "_law_prime", "_law_many", "_law_pieces", "_law_k", "_law_size_here"]
theorem sc__law_web : FnScope n__law_web ["_law_deck_here", "_law_most", "_law_more"] (defScope s__law_web) := ⟨rfl, rfl, rfl, by decide +kernel, rfl, by decide +kernel, by decide +kernel⟩
abbrev s__law_lot : Stmt := top 60
abbrev n__law_lot : List Str := ["_law_deck_here", "_law_many", "_law_bound", "_law_k"]
theorem sc__law_lot : FnScope n__law_lot ["_law_deck_here", "_law_many", "_law_bound"] (defScope s__law_lot) := ⟨rfl, rfl, rfl, by decide +kernel, rfl, by decide +kernel, by decide +kernel⟩
abbrev s__law_lots : Stmt := top 61
abbrev n__law_lots : List Str := ["_law_lot_here", "_law_found", "_law_piece", "_law_one"]
theorem sc__law_lots : FnScope n__law_lots ["_law_lot_here"] (defScope s__law_lots) := ⟨rfl, rfl, rfl, by decide +kernel, rfl, by decide +kernel, by decide +kernel⟩
abbrev s__law_odd_lot : Stmt := top 62
abbrev n__law_odd_lot : List Str := ["_law_deck_here", "_law_many", "_law_odd"]
theorem sc__law_odd_lot : FnScope n__law_odd_lot ["_law_deck_here", "_law_many"] (defScope s__law_odd_lot) := ⟨rfl, rfl, rfl, by decide +kernel, rfl, by decide +kernel, by decide +kernel⟩
abbrev s__law_safe_lots : Stmt := top 63
abbrev n__law_safe_lots : List Str := ["_law_web_here", "_law_k", "_law_every", "_law_safe", "_law_lot_here", "_law_turn", "_law_later", "_law_piece"]
theorem sc__law_safe_lots : FnScope n__law_safe_lots ["_law_web_here", "_law_k"] (defScope s__law_safe_lots) := ⟨rfl, rfl, rfl, by decide +kernel, rfl, by decide +kernel, by decide +kernel⟩
abbrev s__law_large : Stmt := top 64
abbrev n__law_large : List Str := ["_law_deck_here", "_law_web_here", "_law_pieces", "_law_k", "_law_at"]
theorem sc__law_large : FnScope n__law_large ["_law_deck_here", "_law_web_here"] (defScope s__law_large) := ⟨rfl, rfl, rfl, by decide +kernel, rfl, by decide +kernel, by decide +kernel⟩
abbrev s__law_told : Stmt := top 65
abbrev n__law_told : List Str := ["_law_web_here", "_law_lot_here", "_law_k", "_law_found", "_law_good", "error"]
theorem sc__law_told : FnScope n__law_told ["_law_web_here", "_law_lot_here", "_law_k"] (defScope s__law_told) := ⟨rfl, rfl, rfl, by decide +kernel, rfl, by decide +kernel, by decide +kernel⟩
abbrev s__law_is_refused : Stmt := top 66
abbrev n__law_is_refused : List Str := ["_law_deck_here", "_law_made", "_law_many", "_law_odd", "_law_lot_here", "_law_large_here", "_law_every"]
theorem sc__law_is_refused : FnScope n__law_is_refused ["_law_deck_here", "_law_made", "_law_many"] (defScope s__law_is_refused) := ⟨rfl, rfl, rfl, by decide +kernel, rfl, by decide +kernel, by decide +kernel⟩
abbrev s_law : Stmt := top 67
abbrev n_law : List Str := ["_law_script", "_law_deck_here", "_law_web_here", "_law_k", "_law_turns", "_law_made", "_law_many", "_law_safe", "_law_some", "_law_lot_here", "_law_due", "_law_told_here", "_law_turn", "_law_one"]
theorem sc_law : FnScope n_law ["_law_script"] (defScope s_law) := ⟨rfl, rfl, rfl, by decide +kernel, rfl, by decide +kernel, by decide +kernel⟩
/-- a def of the module -/
structure Dn (K : PySem.W.Frag) (mg : Str → Option Value) (x : Str) (st : Stmt) (ps : List Str) where
  f : Addr
  fd : FuncData
  F : FunD K x x (defArgs st) (defBody st) (defScope st) [] [] f fd
  g : mg x = some (.ref f)
  b : Binds K fd ps []
/-- a method -/
structure Mt (K : PySem.W.Frag) (C : Addr) (m q : Str) (st : Stmt) (ps : List Str) where
  f : Addr
  fd : FuncData
  F : FunD K m q (defArgs st) (defBody st) (defScope st) [] [] f fd
  b : Binds K fd ps []
/-- a constant -/
structure Cn (mg : Str → Option Value) (x : Str) (i : Int) where
  t : Tok
  h : mg x = some (.int i t)
/-- an own error without __init__ -/
structure Ec (K : PySem.W.Frag) (mg : Str → Option Value) (x : Str) (C : Addr) : Prop where
  g : mg x = some (.ref C)
  ex : PySem.W.excIn K C He.veBase "ValueError.__new__" = true
  kp : PySem.W.keepIn K (.ref C) = true
  bs : PySem.W.subIn K (.ref C) (.type "BaseException") = some true
  ty : PySem.W.typeIn K (.ref C) = some (.type "type")
/-- what the top has left -/
structure Env (K : PySem.W.Frag) (mg : Str → Option Value) where
  d_is_integer : Dn K mg "is_integer" s_is_integer ["thing"]
  d_is_within : Dn K mg "is_within" s_is_within ["thing", "least", "most"]
  d_is_pair : Dn K mg "is_pair" s_is_pair ["thing"]
  d_is_lot : Dn K mg "is_lot" s_is_lot ["thing", "many"]
  d_is_prime : Dn K mg "is_prime" s_is_prime ["thing"]
  d_is_sum : Dn K mg "is_sum" s_is_sum ["prime", "thing"]
  d_inverse : Dn K mg "inverse" s_inverse ["prime", "value"]
  d_less_times : Dn K mg "less_times" s_less_times ["prime", "row", "times", "other"]
  d_first_place : Dn K mg "first_place" s_first_place ["row"]
  d_is_piece : Dn K mg "is_piece" s_is_piece ["prime", "many", "thing"]
  d_is_lot_of : Dn K mg "is_lot_of" s_is_lot_of ["web", "thing"]
  d_check_lot : Dn K mg "check_lot" s_check_lot ["web", "lot"]
  d_steps_in : Dn K mg "steps_in" s_steps_in ["web", "lot"]
  d_rank_in : Dn K mg "rank_in" s_rank_in ["web", "lot"]
  d_size_in : Dn K mg "size_in" s_size_in ["web", "lot"]
  d_left_of : Dn K mg "left_of" s_left_of ["lot", "lost"]
  d_check_few : Dn K mg "check_few" s_check_few ["lot"]
  d_spans_all : Dn K mg "spans_all" s_spans_all ["web", "lot"]
  d_harms_of : Dn K mg "harms_of" s_harms_of ["web", "lot"]
  d_harms : Dn K mg "harms" s_harms ["web", "lot"]
  d_safety : Dn K mg "safety" s_safety ["web", "lot"]
  d_check_safe : Dn K mg "check_safe" s_check_safe ["thing"]
  d_is_safe : Dn K mg "is_safe" s_is_safe ["web", "lot", "k"]
  d_every : Dn K mg "every" s_every ["web"]
  d_meets_all : Dn K mg "meets_all" s_meets_all ["lot", "cuts", "k"]
  d_all_lots : Dn K mg "all_lots" s_all_lots ["many"]
  d_lightest_safe : Dn K mg "lightest_safe" s_lightest_safe ["web", "k"]
  d__law_deck : Dn K mg "_law_deck" s__law_deck ["_law_script"]
  d__law_mixed : Dn K mg "_law_mixed" s__law_mixed ["_law_cell", "_law_turn"]
  d__law_draw : Dn K mg "_law_draw" s__law_draw ["_law_deck_here", "_law_many"]
  d__law_rank : Dn K mg "_law_rank" s__law_rank ["_law_prime", "_law_sums_here"]
  d__law_sums : Dn K mg "_law_sums" s__law_sums ["_law_web_here", "_law_lot_here"]
  d__law_spans : Dn K mg "_law_spans" s__law_spans ["_law_web_here", "_law_lot_here"]
  d__law_size : Dn K mg "_law_size" s__law_size ["_law_web_here", "_law_lot_here"]
  d__law_left : Dn K mg "_law_left" s__law_left ["_law_lot_here", "_law_lost"]
  d__law_sum : Dn K mg "_law_sum" s__law_sum ["_law_deck_here", "_law_prime", "_law_many"]
  d__law_web : Dn K mg "_law_web" s__law_web ["_law_deck_here", "_law_most", "_law_more"]
  d__law_lot : Dn K mg "_law_lot" s__law_lot ["_law_deck_here", "_law_many", "_law_bound"]
  d__law_lots : Dn K mg "_law_lots" s__law_lots ["_law_lot_here"]
  d__law_odd_lot : Dn K mg "_law_odd_lot" s__law_odd_lot ["_law_deck_here", "_law_many"]
  d__law_safe_lots : Dn K mg "_law_safe_lots" s__law_safe_lots ["_law_web_here", "_law_k"]
  d__law_large : Dn K mg "_law_large" s__law_large ["_law_deck_here", "_law_web_here"]
  d__law_told : Dn K mg "_law_told" s__law_told ["_law_web_here", "_law_lot_here", "_law_k"]
  d__law_is_refused : Dn K mg "_law_is_refused" s__law_is_refused ["_law_deck_here", "_law_made", "_law_many"]
  d_law : Dn K mg "law" s_law ["_law_script"]
  CS : Addr
  CW : Addr
  k_Steps : Cls K CS
  k_Web : Cls K CW
  g_Steps : mg "Steps" = some (.ref CS)
  g_Web : mg "Web" = some (.ref CW)
  a_kept_prime : NoAttr K CS "kept_prime"
  a_kept_rows : NoAttr K CS "kept_rows"
  a_prime : NoAttr K CW "prime"
  a_many : NoAttr K CW "many"
  a_pieces : NoAttr K CW "pieces"
  i_Steps : Mt K CS "__init__" "Steps.__init__" s_Steps_init ["self", "prime"]
  mk_Steps : Mk K CS i_Steps.f
  m_fallen : Mt K CS "fallen" "Steps.fallen" s_Steps_fallen ["self", "row", "made"]
  M_fallen : Meth K CS "fallen" m_fallen.f
  m_take : Mt K CS "take" "Steps.take" s_Steps_take ["self", "name", "row"]
  M_take : Meth K CS "take" m_take.f
  m_cleared : Mt K CS "cleared" "Steps.cleared" s_Steps_cleared ["self", "pair", "place", "left", "made"]
  M_cleared : Meth K CS "cleared" m_cleared.f
  i_Web : Mt K CW "__init__" "Web.__init__" s_Web_init ["self", "prime", "many", "pieces"]
  mk_Web : Mk K CW i_Web.f
  f_len : mg "len" = none
  f_isinstance : mg "isinstance" = none
  f_int : mg "int" = none
  f_bool : mg "bool" = none
  f_tuple : mg "tuple" = none
  f_list : mg "list" = none
  f_dict : mg "dict" = none
  f_range : mg "range" = none
  f_all : mg "all" = none
  f_any : mg "any" = none
  f_sum : mg "sum" = none
  f_min : mg "min" = none
  f_max : mg "max" = none
  f_abs : mg "abs" = none
  f_zip : mg "zip" = none
  f_enumerate : mg "enumerate" = none
  f_sorted : mg "sorted" = none
  f_repr : mg "repr" = none
  c_LEAST_PRIME : Cn mg "LEAST_PRIME" 2
  c_MOST_PRIME : Cn mg "MOST_PRIME" 251
  c_MOST_WIDTH : Cn mg "MOST_WIDTH" 10
  c_MOST_MANY : Cn mg "MOST_MANY" 10
  c_MOST_PIECES : Cn mg "MOST_PIECES" 40
  c_MOST_SIZE : Cn mg "MOST_SIZE" 1000000
  c_MOST_FEW : Cn mg "MOST_FEW" 12
  c_MOST_SAFE : Cn mg "MOST_SAFE" 12
  g_combinations : mg "combinations" = some (.type "itertools.combinations")
  CK : Addr
  CL : Addr
  CN : Addr
  CM : Addr
  fM : Addr
  e_KeepError : Ec K mg "KeepError" CK
  e_NoLot : Ec K mg "NoLot" CL
  e_NoNumber : Ec K mg "NoNumber" CN
end Wk
end

section
set_option Elab.async false
set_option linter.all false
set_option maxRecDepth 100000
set_option maxHeartbeats 4000000
/-! facts of the head: tests of what the top has left, and what they tell -/
namespace HdL
open PySem PySem.Spec PyProof.Rows L2 Evl Rk Wk
abbrev Fr := PySem.W.Frag
/-! ### a caught error of an own class -/
def excCB (K : Fr) (D : Addr) : Bool := decide (PySem.W.findIn K (.ref D) "__getattribute__" = some (some (.builtin "BaseException.__getattribute__"))) && (decide (PySem.W.findIn K (.ref D) "__getattr__" = some none) && (decide (PySem.W.subIn K (.ref D) (.type "BaseException") = some true) &&
  (PySem.W.hasDictIn K D && (decide (PySem.W.findIn K (.ref D) "__class__" = some (some (.builtin "object.__class__"))) && (decide (PySem.W.specialIn K (.builtin "object.__class__") "__get__" = some (some (.builtin "getset_descriptor.__get__"))) &&
  (decide (PySem.W.takesIn K (.builtin "object.__class__") = some true) && decide (PySem.W.mroIn K D (.type "object") = some true)))))))
theorem excCB_ok {K : Fr} {D : Addr} (h : excCB K D = true) : ExcC K D := by
  obtain ⟨h1, h⟩ := Bool.and_eq_true_iff.mp h
  obtain ⟨h2, h⟩ := Bool.and_eq_true_iff.mp h
  obtain ⟨h3, h⟩ := Bool.and_eq_true_iff.mp h
  obtain ⟨h4, h⟩ := Bool.and_eq_true_iff.mp h
  obtain ⟨h5, h⟩ := Bool.and_eq_true_iff.mp h
  obtain ⟨h6, h⟩ := Bool.and_eq_true_iff.mp h
  obtain ⟨h7, h8⟩ := Bool.and_eq_true_iff.mp h
  exact ⟨of_decide_eq_true h1, of_decide_eq_true h2, of_decide_eq_true h3, h4, of_decide_eq_true h5, of_decide_eq_true h6, of_decide_eq_true h7, of_decide_eq_true h8⟩
/-! ### TooMany -/
def clsXB (K : Fr) (C : Addr) : Bool := match K.lookup C with
  | some ⟨.type t, _, .cls cd, sl⟩ => decide (t = "type") && (cd.hasDict && ((!cd.hasDel) && ((match cd.mro with
    | .ref c :: bm => decide (c = C) && PySem.HandSPX.refsVE bm
    | _ => false) && (match sl.toList with
    | [_, _, _, _, some (.builtin i), _] => decide (i = "ValueError.__new__")
    | _ => false))))
  | _ => false
theorem clsXB_ok {K : Fr} {C : Addr} (h : clsXB K C = true) : ∃ nm q N bs bm sn sub ab col dd k0 k1 k2 k3 k5, K.lookup C = some (PySem.excClassObj nm q C N bs bm true sn sub ab col dd k0 k1 k2 k3 k5 "ValueError.__new__") ∧ PySem.HandSPX.refsVE bm = true := by
  unfold clsXB at h
  split at h
  · rename_i t dd cd sl lk
    obtain ⟨nm, bs, mro, N, q, hd, sn, sub, ab, col, del⟩ := cd
    obtain ⟨h1, h⟩ := Bool.and_eq_true_iff.mp h
    obtain ⟨h2, h⟩ := Bool.and_eq_true_iff.mp h
    obtain ⟨h3, h⟩ := Bool.and_eq_true_iff.mp h
    obtain ⟨h4, h5⟩ := Bool.and_eq_true_iff.mp h
    have e1 : t = "type" := of_decide_eq_true h1
    have e2 : hd = true := h2
    have e3 : del = false := by simpa using h3
    split at h4
    · rename_i c bm em
      have em : mro = .ref c :: bm := em
      obtain ⟨h6, h7⟩ := Bool.and_eq_true_iff.mp h4
      have e4 : c = C := of_decide_eq_true h6
      split at h5
      · rename_i k0 k1 k2 k3 i k5 es
        have e5 : i = "ValueError.__new__" := of_decide_eq_true h5
        have e6 : sl = #[k0, k1, k2, k3, some (.builtin i), k5] := Array.toList_inj.mp es
        subst e1 e2 e3 em e4 e5 e6
        exact ⟨nm, q, N, bs, bm, sn, sub, ab, col, dd, k0, k1, k2, k3, k5, lk, h7⟩
      · cases h5
    · cases h4
  · cases h
abbrev TmV : Type := Option (Str × Str × Arguments × FuncBody × Scope × Addr × List Str × Value × Addr)
def tmV (K : Fr) : TmV := match K.lookup (He.fAd K ("TooMany", some "__init__")) with
  | some ⟨_, _, .func fd, _⟩ => some (fd.name, fd.qualname, fd.params, fd.body, fd.scope, fd.globals, fd.closure.map (·.1), fd.defaults, fd.builtins)
  | _ => none
def tmW : TmV := some ("__init__", "TooMany.__init__", Tm.tArgs, .stmts Tm.tBody, Tm.tScope, mainGlobals, ["__class__"], .none, builtinsNs)
def fileB (K : Fr) (cd : Value) : Bool := match cd with
  | .ref cda => PySem.W.codeIn K (.ref cda) "TooMany.__init__" && (match K.lookup cda with
    | some ⟨_, _, .fields vs, _⟩ => (match (vs[2]? : Option Value) with
      | some (.str f _) => ((PySem.Challenge.pw_lightfirst_k63_whole_lightest_safe_lots.main.file : Str) == f)
      | _ => false)
    | _ => false)
  | _ => false
theorem fileB_ok {K : Fr} {cd : Value} (h : fileB K cd = true) : ∃ cda, cd = .ref cda ∧ PySem.W.codeIn K (.ref cda) "TooMany.__init__" = true ∧
    (∃ (ccl : Value) (cdd : Option Addr) (vs : Array Value) (ccs : Array (Option Value)) (file : Str) (tf : Tok), K.lookup cda = some ⟨ccl, cdd, .fields vs, ccs⟩ ∧ vs[2]? = some (.str file tf) ∧ ((PySem.Challenge.pw_lightfirst_k63_whole_lightest_safe_lots.main.file : Str) == file) = true) := by
  unfold fileB at h
  split at h
  · rename_i cda
    obtain ⟨k1, k2⟩ := Bool.and_eq_true_iff.mp h
    split at k2
    · rename_i ccl cdd vs ccs lkc
      split at k2
      · rename_i f tf hf
        exact ⟨cda, rfl, k1, ccl, cdd, vs, ccs, f, tf, lkc, hf, k2⟩
      · cases k2
    · cases k2
  · cases h
def cellB (K : Fr) (l : List (Str × Addr)) : Bool := match l with
  | [(_, cc)] => (match K.lookup cc with
    | some ⟨_, _, .cell (some (.ref c)), _⟩ => decide (c = He.ga K "TooMany")
    | _ => false)
  | _ => false
theorem cellB_ok {K : Fr} {l : List (Str × Addr)} (h : cellB K l = true) : ∃ nm cc, l = [(nm, cc)] ∧ ∃ (cl : Value) (cld : Option Addr) (csl : Array (Option Value)), K.lookup cc = some ⟨cl, cld, .cell (some (.ref (He.ga K "TooMany"))), csl⟩ := by
  unfold cellB at h
  split at h
  · rename_i nm cc
    split at h
    · rename_i cl cld c csl lk
      have ec : c = He.ga K "TooMany" := of_decide_eq_true h
      rw [ec] at lk
      exact ⟨nm, cc, rfl, cl, cld, csl, lk⟩
    · cases h
  · cases h
def tmB (K : Fr) : Bool := match K.lookup (He.fAd K ("TooMany", some "__init__")) with
  | some ⟨_, _, .func fd, _⟩ => fileB K fd.code && cellB K fd.closure
  | _ => false
theorem tm_fn {K : Fr} (e : tmV K = tmW) (h : tmB K = true) : ∃ (oc kV doc pm ct : Value) (od an : Option Addr) (cda cc : Addr) (osl : Array (Option Value)), K.lookup (He.fAd K ("TooMany", some "__init__")) = some ⟨oc, od, .func (Tm.tFn kV doc pm an (.ref cda) ct cc), osl⟩ ∧ PySem.W.codeIn K (.ref cda) "TooMany.__init__" = true ∧
    (∃ (ccl : Value) (cdd : Option Addr) (vs : Array Value) (ccs : Array (Option Value)) (file : Str) (tf : Tok), K.lookup cda = some ⟨ccl, cdd, .fields vs, ccs⟩ ∧ vs[2]? = some (.str file tf) ∧ ((PySem.Challenge.pw_lightfirst_k63_whole_lightest_safe_lots.main.file : Str) == file) = true) ∧
    (∃ (cl : Value) (cld : Option Addr) (csl : Array (Option Value)), K.lookup cc = some ⟨cl, cld, .cell (some (.ref (He.ga K "TooMany"))), csl⟩) := by
  unfold tmV at e
  unfold tmB at h
  cases q : K.lookup (He.fAd K ("TooMany", some "__init__")) with
  | none =>
    rw [q] at h
    cases h
  | some o =>
    obtain ⟨oc, od, dt, osl⟩ := o
    rw [q] at e h
    cases dt with
    | func fd =>
      obtain ⟨n1, n2, n3, n4, n5, n6, n7, n8, n9, n10, n11, n12, n13, n14, n15⟩ := fd
      have e2 : (some (n1, n2, n3, n4, n5, n6, n7.map (·.1), n8, n15) : TmV) = tmW := e
      unfold tmW at e2
      simp only [Option.some.injEq, Prod.mk.injEq] at e2
      obtain ⟨h1, h2, h3, h4, h5, h6, h7, h8, h9⟩ := e2
      have h' : (fileB K n13 && cellB K n7) = true := h
      obtain ⟨g1, g2⟩ := Bool.and_eq_true_iff.mp h'
      obtain ⟨cda, rfl, k1, k2⟩ := fileB_ok g1
      obtain ⟨nm, cc, rfl, k3⟩ := cellB_ok g2
      have en : nm = "__class__" := by
        have z : [nm] = [("__class__" : Str)] := h7
        injection z
      subst h1 h2 h3 h4 h5 h6 h8 h9 en
      exact ⟨oc, n9, n10, n11, n14, od, n12, cda, cc, osl, rfl, k1, k2, k3⟩
    | _ => cases h
/-! ### all of it -/
def exL (K : Fr) : Bool := decide (PySem.W.nsIn K mainGlobals "combinations" = some (some (.type "itertools.combinations"))) && (excCB K (He.ga K "NoLot") && (excCB K (He.ga K "NoNumber") && (excCB K (He.ga K "TooMany") && (xfB K (He.ga K "TooMany") &&
  (decide (PySem.W.kitOne K (.ref (He.ga K "NoLot")) (.ref (He.ga K "KeepError")) = some true) && (decide (PySem.W.kitOne K (.ref (He.ga K "NoNumber")) (.ref (He.ga K "KeepError")) = some true) && (decide (PySem.W.kitOne K (.ref (He.ga K "TooMany")) (.ref (He.ga K "KeepError")) = some true) &&
  (clsXB K (He.ga K "TooMany") && (decide (PySem.W.findIn K (.ref (He.ga K "TooMany")) "__setattr__" = some (some (.builtin "object.__setattr__"))) && (decide (PySem.W.findIn K (.ref (He.ga K "TooMany")) "__init__" = some (some (.ref (He.fAd K ("TooMany", some "__init__"))))) &&
  (decide (PySem.W.typeIn K (.ref (He.fAd K ("TooMany", some "__init__"))) = some (.type "function")) && (PySem.W.keepIn K (.ref (He.ga K "TooMany")) && (decide (PySem.W.subIn K (.ref (He.ga K "TooMany")) (.type "BaseException") = some true) && (decide (PySem.W.typeIn K (.ref (He.ga K "TooMany")) = some (.type "type")) &&
  (decide (PySem.W.subIn K (.ref (He.ga K "TooMany")) (.type "ValueError") = some true) && (decide (PySem.W.mroIn K (He.ga K "TooMany") (.ref (He.ga K "TooMany")) = some true) && (decide (PySem.W.ks_superIn K (He.ga K "TooMany") (He.ga K "TooMany") "__init__" = some (some (.builtin "ValueError.__init__"))) &&
  (decide (PySem.W.nsIn K cStatics "thirdparty.any" = some none) && tmB K))))))))))))))))))
/-- where the law's lambda is made: its maker's code object, the table of it -/
def lamC (K : Fr) : Addr := He.codeOf K ("_law_lots", none)
def lamP (K : Fr) : Addr := He.tabOf K (lamC K)
def reach (g : Addr → Option Obj) (n : Nat) : List Addr := cStatics :: He.asD g n
def heldK (g : Addr → Option Obj) (n : Nat) : Fr := He.frT g (reach g n)
abbrev AlL : Type := He.AlD × Bool × TmV
def obsL (n : Nat) (fa : List He.Fa) (fn : List He.DefD) (g : Addr → Option Obj) : AlL := (He.obsD fa fn (heldK g n), exL (heldK g n) && (PySem.W.codeHdIn (heldK g n) (lamC (heldK g n)) (lamP (heldK g n)) && (match g (lamP (heldK g n)) with
  | some o => He.emptyTab o
  | none => false)), tmV (heldK g n))
structure Says (fa : List He.Fa) (fn : List He.DefD) (h : Heap) (K : Fr) : Prop where
  d : He.SaysD fa fn K
  ex : exL K = true
  hd : PySem.W.codeHdIn K (lamC K) (lamP K) = true
  out : K.lookup (lamP K) = none
  empty : h.get? (lamP K) = some { cls := .none, data := .fields #[] }
  tm : tmV K = tmW
theorem says_of {n : Nat} {fa : List He.Fa} {fn : List He.DefD} {h : Heap} (e : obsL n fa fn h.get? = (He.valD fn, true, tmW)) : Says fa fn h (heldK h.get? n) := by
  obtain ⟨e1, e23⟩ := Prod.mk.inj e
  obtain ⟨e2, e3⟩ := Prod.mk.inj e23
  obtain ⟨h1, h2⟩ := Bool.and_eq_true_iff.mp e2
  obtain ⟨h3, h4⟩ := Bool.and_eq_true_iff.mp h2
  cases q : h.get? (lamP (heldK h.get? n)) with
  | none =>
    rw [q] at h4
    cases h4
  | some o =>
    rw [q] at h4
    exact ⟨e1, h1, h3, He.frT_none q h4, by rw [q, He.emptyTab_eq h4], e3⟩
def hookL (n : Nat) (fa : List He.Fa) (fn : List He.DefD) : PySem.W.Hook where
  α := AlL
  obs := fun s => obsL n fa fn s.heap.get?
  val := fun _ => (He.valD fn, true, tmW)
  says := fun _ h => ∃ K : Fr, K.In h ∧ Says fa fn h K
  of := fun _ _ e => ⟨_, He.frT_in, says_of e⟩
  keeps := fun _ _ _ ⟨K, hK, c⟩ k => ⟨K, PySem.W.Frag.In.keeps hK k, ⟨c.d, c.ex, c.hd, c.out, k _ _ c.empty, c.tm⟩⟩
theorem obsL_eq {n : Nat} {fa : List He.Fa} {fn : List He.DefD} {g : Addr → Option Obj} {s : Shared} (h : ∀ a, g a = s.heap.get? a) : obsL n fa fn g = (hookL n fa fn).obs s := by
  rw [show g = s.heap.get? from funext h]
  rfl
/-! ### from the facts to what the walk asks -/
section
variable {K : Fr} {h : Heap} {mg : Str → Option Value} {fa : List He.Fa} {fn : List He.DefD}
/-- a def of the module -/
abbrev dOf (x : Str) (st : Stmt) : He.DefD := ⟨(x, none), x, x, defArgs st, defBody st, defScope st, [], []⟩
abbrev mOf (C m q : Str) (st : Stmt) : He.DefD := ⟨(C, some m), m, q, defArgs st, defBody st, defScope st, [], []⟩
noncomputable def mkDn {x : Str} {st : Stmt} {ps : List Str} (X : K.In h) (G : h.Ns mainGlobals mg) (c : He.SaysD fa fn K) (i j : Nat) (hi : fn[i]? = some (dOf x st)) (hj : fa[j]? = some (.glo x)) (hb : ∀ fd, FunD K x x (defArgs st) (defBody st) (defScope st) [] [] (He.ga K x) fd → Binds K fd ps []) : Dn K mg x st ps where
  f := He.ga K x
  fd := Classical.choose (c.def_ i hi)
  F := Classical.choose_spec (c.def_ i hi)
  g := He.glo_ok X G (c.fact j hj)
  b := hb _ (Classical.choose_spec (c.def_ i hi))
noncomputable def mkMt {C m q : Str} {st : Stmt} {ps : List Str} (c : He.SaysD fa fn K) (i : Nat) (hi : fn[i]? = some (mOf C m q st)) (hb : ∀ fd, FunD K m q (defArgs st) (defBody st) (defScope st) [] [] (He.ma K (He.ga K C) m) fd → Binds K fd ps []) : Mt K (He.ga K C) m q st ps where
  f := He.ma K (He.ga K C) m
  fd := Classical.choose (c.def_ i hi)
  F := Classical.choose_spec (c.def_ i hi)
  b := hb _ (Classical.choose_spec (c.def_ i hi))
noncomputable def mkCn {x : Str} {z : Int} (X : K.In h) (G : h.Ns mainGlobals mg) (c : He.SaysD fa fn K) (j : Nat) (hj : fa[j]? = some (.int x z)) : Cn mg x z where
  t := Classical.choose (He.int_ok X G (c.fact j hj))
  h := Classical.choose_spec (He.int_ok X G (c.fact j hj))
theorem mkEc {x : Str} (X : K.In h) (G : h.Ns mainGlobals mg) (c : He.SaysD fa fn K) (i j : Nat) (hi : fa[i]? = some (.glo x)) (hj : fa[j]? = some (.exc x)) : Ec K mg x (He.ga K x) := by
  obtain ⟨h1, h2, h3, h4⟩ := He.exc_ok (c.fact j hj)
  exact ⟨He.glo_ok X G (c.fact i hi), h1, h2, h3, h4⟩
end
end HdL
end

section
set_option Elab.async false
set_option linter.all false
set_option maxRecDepth 100000
set_option maxHeartbeats 0
namespace HdL
open PySem PySem.Spec PyProof.Rows L2 Evl Rk Wk
/-! the law's head: printed by genF.py -/
def fnL : List He.DefD := [dOf "is_integer" s_is_integer,
  dOf "is_within" s_is_within,
  dOf "is_pair" s_is_pair,
  dOf "is_lot" s_is_lot,
  dOf "is_prime" s_is_prime,
  dOf "is_sum" s_is_sum,
  dOf "inverse" s_inverse,
  dOf "less_times" s_less_times,
  dOf "first_place" s_first_place,
  dOf "is_piece" s_is_piece,
  dOf "is_lot_of" s_is_lot_of,
  dOf "check_lot" s_check_lot,
  dOf "steps_in" s_steps_in,
  dOf "rank_in" s_rank_in,
  dOf "size_in" s_size_in,
  dOf "left_of" s_left_of,
  dOf "check_few" s_check_few,
  dOf "spans_all" s_spans_all,
  dOf "harms_of" s_harms_of,
  dOf "harms" s_harms,
  dOf "safety" s_safety,
  dOf "check_safe" s_check_safe,
  dOf "is_safe" s_is_safe,
  dOf "every" s_every,
  dOf "meets_all" s_meets_all,
  dOf "all_lots" s_all_lots,
  dOf "lightest_safe" s_lightest_safe,
  dOf "_law_deck" s__law_deck,
  dOf "_law_mixed" s__law_mixed,
  dOf "_law_draw" s__law_draw,
  dOf "_law_rank" s__law_rank,
  dOf "_law_sums" s__law_sums,
  dOf "_law_spans" s__law_spans,
  dOf "_law_size" s__law_size,
  dOf "_law_left" s__law_left,
  dOf "_law_sum" s__law_sum,
  dOf "_law_web" s__law_web,
  dOf "_law_lot" s__law_lot,
  dOf "_law_lots" s__law_lots,
  dOf "_law_odd_lot" s__law_odd_lot,
  dOf "_law_safe_lots" s__law_safe_lots,
  dOf "_law_large" s__law_large,
  dOf "_law_told" s__law_told,
  dOf "_law_is_refused" s__law_is_refused,
  dOf "law" s_law,
  mOf "Steps" "__init__" "Steps.__init__" s_Steps_init,
  mOf "Steps" "fallen" "Steps.fallen" s_Steps_fallen,
  mOf "Steps" "take" "Steps.take" s_Steps_take,
  mOf "Steps" "cleared" "Steps.cleared" s_Steps_cleared,
  mOf "Web" "__init__" "Web.__init__" s_Web_init]
def faL : List He.Fa := [.glo "is_integer", .glo "is_within", .glo "is_pair", .glo "is_lot", .glo "is_prime", .glo "is_sum", .glo "inverse", .glo "less_times", .glo "first_place", .glo "is_piece", .glo "is_lot_of", .glo "check_lot", .glo "steps_in", .glo "rank_in", .glo "size_in", .glo "left_of", .glo "check_few", .glo "spans_all", .glo "harms_of", .glo "harms", .glo "safety", .glo "check_safe", .glo "is_safe", .glo "every", .glo "meets_all", .glo "all_lots", .glo "lightest_safe", .glo "_law_deck", .glo "_law_mixed", .glo "_law_draw", .glo "_law_rank", .glo "_law_sums", .glo "_law_spans", .glo "_law_size", .glo "_law_left", .glo "_law_sum", .glo "_law_web", .glo "_law_lot", .glo "_law_lots", .glo "_law_odd_lot", .glo "_law_safe_lots", .glo "_law_large", .glo "_law_told", .glo "_law_is_refused", .glo "law", .mkr "Steps", .meth "Steps" "fallen", .meth "Steps" "take", .meth "Steps" "cleared", .mkr "Web", .cls "Steps", .glo "Steps", .cls "Web", .glo "Web", .noat "Steps" "kept_prime", .noat "Steps" "kept_rows", .noat "Web" "prime", .noat "Web" "many", .noat "Web" "pieces", .free "len", .free "isinstance", .free "int", .free "bool", .free "tuple", .free "list", .free "dict", .free "range", .free "all", .free "any", .free "sum", .free "min", .free "max", .free "abs", .free "zip", .free "enumerate", .free "sorted", .free "repr", .int "LEAST_PRIME" 2, .int "MOST_PRIME" 251, .int "MOST_WIDTH" 10, .int "MOST_MANY" 10, .int "MOST_PIECES" 40, .int "MOST_SIZE" 1000000, .int "MOST_FEW" 12, .int "MOST_SAFE" 12, .glo "KeepError", .exc "KeepError", .glo "NoLot", .exc "NoLot", .glo "NoNumber", .exc "NoNumber", .glo "TooMany", .noat "TooMany" "most", .free "super", .exm "NoLot" "NoLot" true, .exm "NoNumber" "NoLot" false, .exm "NoNumber" "NoNumber" true, .exm "TooMany" "NoLot" false, .exm "TooMany" "NoNumber" false, .exm "TooMany" "TooMany" true]
def looseA : List Str := ["_wall", "is_integer", "is_within", "is_pair", "is_lot", "KeepError", "BadWeb", "NoLot", "TooMany", "NoNumber", "LEAST_PRIME", "MOST_PRIME", "MOST_WIDTH", "is_prime", "is_sum", "inverse", "less_times", "first_place", "Steps", "MOST_MANY", "MOST_PIECES", "MOST_SIZE", "Web", "is_piece", "is_lot_of", "check_lot", "steps_in", "rank_in", "size_in", "MOST_FEW"]
def looseB : List Str := ["MOST_SAFE", "left_of", "check_few", "spans_all", "harms_of", "harms", "safety", "check_safe", "is_safe", "every", "meets_all", "all_lots", "lightest_safe", "_law_deck", "_law_mixed", "_law_draw", "_law_rank", "_law_sums", "_law_spans", "_law_size", "_law_left", "_law_sum", "_law_web", "_law_lot", "_law_lots", "_law_odd_lot", "_law_safe_lots", "_law_large", "_law_told", "_law_is_refused"]
def looseL : List Str := looseA ++ looseB
abbrev R : PySem.W.OpenRow := PySem.W.OpenLaw.row PySem.Challenge.rw_lightfirst_k63_whole_lightest_safe_lots
abbrev qv : Program := PySem.W.view R.prog [0, 67]
abbrev hkL : PySem.W.Hook := hookL 6 faL fnL
def obL (s : PySem.W.SharedT) : AlL := obsL 6 faL fnL (HandSHeadRun.getT s)
theorem obL_eq (s : PySem.W.SharedT) : obL s = hkL.obs s.abs := obsL_eq (HandSHeadRun.getT_eq s)
theorem runL (w : World) : HandSHeadRun.RunEqI R qv hkL obL 20000 looseL w := by
  unfold HandSHeadRun.RunEqI
  kernel_rfl
end HdL
end

section
set_option Elab.async false
set_option linter.all false
set_option maxRecDepth 100000
set_option maxHeartbeats 4000000
namespace HdL
open PySem PySem.W PySem.Calls PyProof.Rows
theorem z1 : defOf qv R.name = some (HandSHeadRun.topDef R.prog 67, []) := by kernel_rfl
theorem z2 : R.prog.theDef R.name = some ((HandSHeadRun.topDef R.prog 67).params, (HandSHeadRun.topDef R.prog 67).body, (HandSHeadRun.topDef R.prog 67).scope) := by kernel_rfl
theorem z3 : kwWritten? (HandSHeadRun.topDef R.prog 67).params.kwonlyargs (HandSHeadRun.topDef R.prog 67).params.kw_defaults = some [] := by kernel_rfl
theorem z4 : (!R.writes || R.records.isEmpty) = true := by kernel_rfl
theorem z5 : R.wellSaid = true := by kernel_rfl
theorem z6a : chainsOk qv = true := by kernel_rfl
theorem z6b : opensWell R.prog = true := by kernel_rfl
theorem z6c : (frees R.toRowW && R.within.isEmpty) = true := by kernel_rfl
theorem z6 : (chainsOk qv && opensWell R.prog && (frees R.toRowW && R.within.isEmpty)) = true := by rw [z6a, z6b, z6c]; rfl
theorem z7 : R.prog.bare := ⟨rfl, rfl, rfl, rfl, rfl, by decide +kernel⟩
theorem z8 : (HandSHeadRun.topDef R.prog 67).name = ("law" : PySem.Str) := by kernel_rfl
theorem z9 : (HandSHeadRun.topDef R.prog 67).params.defaults = [] := by kernel_rfl
end HdL
end

section
set_option Elab.async false
set_option linter.all false
set_option maxRecDepth 100000
set_option maxHeartbeats 4000000
/-! ### isinstance of a caught error that bears a dict of its own -/
namespace Tm
open PySem PySem.W PySem.Spec PySem.Calls PyProof.Rows L2
section
variable {prog : Program} {w : World} {A : Around} {E : Value → Shared → Prop} {s : Shared} {K : Frag} {x D : Addr} {obx : Obj} {odc : Obj}
theorem classOf (T : ExcC K D) {Q : Option Value → Shared → Prop} (X : K.In s.heap) (I : InstAt s.heap x obx D (some odc)) (h : Q (some (.ref D)) { s with toks := s.toks + 1 }) :
    wpAny (model prog w) A (getAttr? (.ref x) "__class__") Q E s := by
  have hc : (clsIn K D).isSome = true := by
    obtain ⟨cd, hc, _⟩ := any_some T.hd
    rw [hc]
    rfl
  have hf := findObj_data (od := odc) hc T.ha T.hn T.ht
  obtain ⟨hp, g, d, t, os⟩ := s
  have lt := I.type (M := model prog w)
  have lf := looks_find (M := model prog w) X I hf
  have isBe : Looks (model prog w) hp (isInstance (.ref x) (.type "BaseException")) true := lt.andThen (looks_subIn X T.hs)
  have ne : (Value.builtin "BaseException.__getattribute__" == Value.builtin "object.__getattribute__") = false := by decide +kernel
  unfold getAttr? getAttrBy? getAttrBy; refine wpAny_bind (wpAny_mkText (wpAny_bind (wpAny_attempt (wpAny_holding (wpAny_bind (lt.at (wpAny_bind ((looks_findIn (M := model prog w) X T.hg).at ?_))))))))
  change wpAny _ _ (if (onTheHeap (Value.ref D) && Value.builtin "BaseException.__getattribute__" == Value.builtin "object.__getattribute__") = true then _ else _) _ _ _
  rw [show (onTheHeap (Value.ref D) && Value.builtin "BaseException.__getattribute__" == Value.builtin "object.__getattribute__") = false by rw [ne]; rfl, if_neg Bool.false_ne_true]
  unfold getAttrByItsOwn hookBefore; refine wpAny_bind ?_
  rw [if_pos (c := onTheHeap (Value.ref D) = true) rfl]
  refine (looks_findIn (M := model prog w) X T.hk).at (wpAny_bind (wpAny_attempt (wpAny_holding ?_)))
  unfold callGetattribute
  rw [show (false && onTheHeap (Value.builtin "BaseException.__getattribute__")) = false from rfl, if_neg Bool.false_ne_true]
  unfold boundAndCalled
  rw [PySem.F.excAttr_ValueError.ga.bind (.ref x)]; refine wpAny_bind (wpAny_pure ?_)
  change wpAny _ _ (call (.builtin "BaseException.__getattribute__") [.ref x, .str "__class__" t]) _ _ _
  refine wpAny_call (codeAny_call_builtin PySem.F.excAttr_ValueError.ga.plain PySem.F.entry_bexc_ga ?_)
  refine @check_slot (model prog w) _ _ ⟨hp, g, d, t + 1, os⟩ "BaseException.__getattribute__" "BaseException" "__getattribute__" (.ref x) [.str "__class__" t] [] _ (by decide +kernel) (by decide +kernel) isBe (PySem.F.args_bexc_ga (.ref x) (.str "__class__" t)) ?_
  unfold Builtin.«object.__getattribute__»; refine wpAny_bind (wpAny_of_eq (a := ((Value.ref x : Value), [Value.str "__class__" t])) (by first | rfl | (simp only [slotArgs]; rfl)) ?_)
  refine wpAny_bind (wpAny_pure (wpAny_bind (lt.at (wpAny_bind (lf.at ?_)))))
  change wpAny _ _ (holding [Value.builtin "object.__class__"] (call (.builtin "getset_descriptor.__get__") [.builtin "object.__class__", .ref x, .ref D]) >>= ret) _ _ _
  refine wpAny_bind (wpAny_holding (wpAny_call (class_get (s := ⟨hp, g, d, t + 1, os⟩) (ox := obx) (od := some odc) X I T.hm (wpAny_pure ?_))))
  change wpAny _ _ (handedOut (.ref D)) _ _ _
  rw [handedOut_of (v := .ref D) rfl]; first
    | exact wpAny_pure (wpAny_pure h)
    | exact wpAny_pure h
    | exact wpAny_pure (wpAny_bind (wpAny_pure (wpAny_pure h)))
theorem kitD (T : ExcC K D) : KitX K (.ref x) (.ref D) (fun h => InstAt h x obx D (some odc)) := by
  have k := handS_kitx_exc (x := x) (ox := obx) T.hg T.hk T.hs T.hd T.ha T.hn T.ht T.hm
  have isD : ∃ o cd, K.lookup D = some o ∧ o.data = .cls cd := by
    obtain ⟨cdD, hcD, _⟩ := any_some T.hd
    unfold clsIn at hcD
    split at hcD
    · rename_i c' d' cd' sl' ho
      exact ⟨_, _, ho, rfl⟩
    · cases hcD
  obtain ⟨o, cd, ho, hd⟩ := isD
  exact { ty := fun _ _ _ I => I.type
          it := fun _ _ X _ => by
            obtain ⟨oc, odd, dt, sl⟩ := o
            intro A' Q' E' s' kk q
            cases hd
            unfold isType loadHead
            exact wpAny_bind (wpAny_loadPart (kk _ _ (X _ _ ho)) (wpAny_pure q))
          ne := fun h tp dd its n sl X htp => by
            refine Bool.eq_false_iff.mpr fun q => ?_
            have e : D = tp := Value.ref.inj (beq_iff_eq.mp q)
            subst e
            have z := (X _ _ ho).symm.trans htp
            rw [Option.some.inj z] at hd
            cases hd
          ca := fun X I kk => classOf T X I kk }
end
/-- isinstance(e, c), e the exception that the suite holds, with its own dict -/
def rIsD (K : Frag) (D a : Addr) (d : Option Addr) : List V → Hp → VK → Prop := fun xs H Q => ∃ (c : V) (cv : Value) (b : Bool) (dd : Addr) (fs : List (Str × V)), xs = [.ref a, c] ∧ (∀ u, RelV c u → u = cv) ∧ kitOne K (.ref D) cv = some b ∧ d = some dd ∧ H dd = some (.xd fs) ∧ Q (.bl b) H
theorem call_isD {X : Cx} {a D : Addr} {d : Option Addr} {obe : Obj} {pn : List (Addr × Obj)} {cls : Value} (ecls : cls = .ref D) (C : ExcC X.K D) (hz : Zc cls d obe) (hf : ∃ vs, obe.data = .fields vs) : CallR (X.suite a ((a, obe) :: pn)) (.builtin "isinstance") (rIsD X.K D a d) := by
  intro pins s σ H xs us Q I r h
  obtain ⟨c, cv, b, dd, fs, rfl, hcv, e, rfl, hdd, q⟩ := h
  subst ecls
  obtain ⟨w1, w2, rfl, q1v, q2v⟩ := vals2 r
  cases q1v
  have ec := hcv _ q2v
  subst ec
  obtain ⟨hgt0, _⟩ := I.pin (a, obe) (List.mem_append.mpr (.inl List.mem_cons_self))
  obtain ⟨vs, hv⟩ := hf
  obtain ⟨mA, hns, _⟩ := (show ObjOk X.prog X.w H s.heap dd (.xd fs) from I.hok dd _ hdd)
  obtain ⟨odc, ho, _⟩ := lookIn_ns hns
  have J : InstAt s.heap a obe D (some odc) := ⟨hgt0, hz.1, by unfold notCls; rw [hv] <;> rfl, by rw [hz.2]; exact ho⟩
  exact kia_one (kitD C) I.kIn J e (fun z => nomatch z) fun tk => ⟨.bl b, H, I.kept (t' := tk) fun _ _ z => z, rfl, q⟩
/-! ### TooMany(e), raised -/
theorem relO_most {v : V} {v' : Value} (r : RelV v v') (f : Str) : RelO (List.lookup f [(("most" : Str), v)]) (if f = "most" then some v' else none) := by
  by_cases hw : f = "most"
  · subst hw
    rw [if_pos rfl, show List.lookup ("most" : Str) [(("most" : Str), v)] = some v by simp [List.lookup]]
    exact r
  · rw [if_neg hw, show List.lookup f [(("most" : Str), v)] = none by simp [List.lookup, show (f == ("most" : Str)) = false by simpa using hw]]
    trivial
def tMkTm (C : Addr) (ta : TA) : L2.St → Hp → XK → Prop := fun σ H Q => ta σ H fun vs H1 => ∃ v, vs = [v] ∧ ∀ d, H1 d = none → Q (.ref C) (some d) (upd H1 d (.xd [(("most" : Str), v)]))
theorem pmk_tm {X : Cx} {C fI : Addr} {a : Expr} {ta : TA} {p pos : PySem.Pos} {k : Nat} (T : Txt X.prog X.K X.mg C fI) (hr : Room k X.A) (ha : PA X [a] ta) (hg : Gl X "TooMany" := by rfl)
    (he : starEach (a :: []) X.env = (false, eval a X.env) :: starEach [] X.env := by rfl) (hplain : (backTo pos (starEach [] X.env)).any (·.1) = false := by rfl) :
    PMk X (.Call (.Name "TooMany" p) [a] [] pos) (tMkTm C ta) := by
  intro pins s σ H Q I h
  refine wpAny_Call_Name_kw (ld_glob I hg T.gC ?_)
  refine PySem.W.callWith_K (h₀ := X.base) I.ok.mod.kin T.kC (thn (ha.run pos pins s σ H _ I h) fun us s1 hh => ?_) he hplain
  obtain ⟨vs, H1, I1, q1v, v, rfl, q1⟩ := hh
  refine ⟨I1.kIn, ?_⟩
  obtain ⟨v', rfl, rv⟩ := Vals.one q1v
  change wpAny _ _ (call (.ref C) [v']) _ _ _
  have hlim := I1.nolimit
  obtain ⟨mb, hB, hbb⟩ := I1.ok.mod.blt
  have nsk : ∀ {b : Addr} {m : Str → Option Value}, X.base.Ns b m → s1.heap.Ns b m := fun ⟨o, es, ep, e, r⟩ => ⟨o, es, ep, I1.bk _ _ e, r⟩
  have hG' := nsk I1.ok.mod.glob
  have hB' := nsk hB
  obtain ⟨hp, g, drw, tk, os⟩ := s1
  refine wpAny_call (tm_made T I1.kIn hlim hG' hB' hbb (by have := hr.dp; omega) fun h' tk' e d M => ?_)
  show MkP X pins σ Q (.ref e) ⟨h', g, drw, tk', os⟩
  obtain ⟨obe, fvs, hoe, hc, hd, hda, h1x⟩ := M.obj
  obtain ⟨Gx, g1, g2⟩ := restrict h' fun b => decide (b ≠ e)
  have gkeep : ∀ b, b ≠ e → Gx.get? b = h'.get? b := fun b hb => g1 b (decide_eq_true hb)
  have gNone : Gx.get? e = none := g2 e (by simp)
  have oldK : ∀ b o, hp.get? b = some o → Gx.get? b = some o := fun b o q => (gkeep b (Nat.ne_of_lt (Nat.lt_of_lt_of_le (Heap.lt_size q) M.new))).trans (M.keep b o q)
  have ob : ObjOk X.prog X.w (upd H1 d (.xd [(("most" : Str), v)])) Gx d (.xd [(("most" : Str), v)]) :=
    ⟨_, M.ns.at (fun o q => (gkeep d M.dne).trans q), fun f => relO_most rv f⟩
  have J : Inv X pins σ (upd H1 d (.xd [(("most" : Str), v)])) ⟨Gx, g, drw, tk', os⟩ := I1.laid (t' := tk') oldK M.dbig ob
  refine ⟨e, obe, fvs, ⟨Gx, g, drw, tk', os⟩, _, .ref C, some d, rfl, J, fun b o q => ?_, gNone, hoe, ⟨hc, hd⟩, hda, h1x, ?_, rfl, I1.bare, raises_own T.exC T.tyC, q1 d (I1.hok.fresh M.dbig)⟩
  · by_cases hb : b = e
    · have qx : Gx.get? b = some o := q
      rw [hb, gNone] at qx; cases qx
    · exact (gkeep b hb).symm.trans q
  · rw [upd_ne (Ne.symm M.dne)]
    exact I1.hok.fresh M.new
end Tm
end

section
set_option Elab.async false
set_option linter.all false
set_option maxRecDepth 100000
set_option maxHeartbeats 2000000
namespace Wk
open PySem PySem.Spec PyProof.Rows L2 Evl Rk
section
variable {K : PySem.W.Frag} {base : Heap} {mg : Str → Option Value} {P : Program} {w : World}
/-! ### things -/
inductive Th (H : Hp) : V → Prop
  | int (i : Int) : Th H (.int i)
  | bl (b : Bool) : Th H (.bl b)
  | non : Th H .non
  | str (s : Str) : Th H (.str s)
  | lst {a : Addr} {xs : List V} (h : H a = some (.lst xs)) : Th H (.ref a)
  | tup {a : Addr} {xs : List V} (h : H a = some (.tup xs)) : Th H (.ref a)
  | dct {a : Addr} {kvs : List (Key × V)} (h : H a = some (.dK kvs)) : Th H (.ref a)
theorem Th.on {H H' : Hp} {v : V} (e : Ex H H') (h : Th H v) : Th H' v := by
  cases h with
  | int i => exact .int i
  | bl b => exact .bl b
  | non => exact .non
  | str s => exact .str s
  | lst h => exact .lst (e _ _ h)
  | tup h => exact .tup (e _ _ h)
  | dct h => exact .dct (e _ _ h)
def isI : V → Bool
  | .int _ => true
  | _ => false
def isIB : V → Bool
  | .int _ => true
  | .bl _ => true
  | _ => false
def isB : V → Bool
  | .bl _ => true
  | _ => false
/-- isinstance's answer -/
def IsiA (K : PySem.W.Frag) (H : Hp) (v : V) (n : String) (b : Bool) : Prop := ∃ t u, ClsV (.ty n) u ∧ TyX K H v t ∧ PySem.W.kitOne K t u = some b
theorem isi_int {H : Hp} {v : V} (h : Th H v) : IsiA K H v "int" (isIB v) := by
  cases h with
  | int i => exact ⟨_, _, .ty _, .base (.int i), kit_ty (r := true) (by decide +kernel)⟩
  | bl b => exact ⟨_, _, .ty _, .base (.bl b), kit_ty (r := true) (by decide +kernel)⟩
  | non => exact ⟨_, _, .ty _, .base .non, kit_ty (r := false) (by decide +kernel)⟩
  | str s => exact ⟨_, _, .ty _, .base (.str s), kit_ty (r := false) (by decide +kernel)⟩
  | lst h => exact ⟨_, _, .ty _, .base (.lst h), kit_ty (r := false) (by decide +kernel)⟩
  | tup h => exact ⟨_, _, .ty _, .base (.tup h), kit_ty (r := false) (by decide +kernel)⟩
  | dct h => exact ⟨_, _, .ty _, .base (.dK h), kit_ty (r := false) (by decide +kernel)⟩
theorem isi_bool {H : Hp} {v : V} (h : Th H v) : IsiA K H v "bool" (isB v) := by
  cases h with
  | int i => exact ⟨_, _, .ty _, .base (.int i), kit_ty (r := false) (by decide +kernel)⟩
  | bl b => exact ⟨_, _, .ty _, .base (.bl b), kit_ty (r := true) (by decide +kernel)⟩
  | non => exact ⟨_, _, .ty _, .base .non, kit_ty (r := false) (by decide +kernel)⟩
  | str s => exact ⟨_, _, .ty _, .base (.str s), kit_ty (r := false) (by decide +kernel)⟩
  | lst h => exact ⟨_, _, .ty _, .base (.lst h), kit_ty (r := false) (by decide +kernel)⟩
  | tup h => exact ⟨_, _, .ty _, .base (.tup h), kit_ty (r := false) (by decide +kernel)⟩
  | dct h => exact ⟨_, _, .ty _, .base (.dK h), kit_ty (r := false) (by decide +kernel)⟩
theorem isi_tup {H : Hp} {a : Addr} {xs : List V} (h : H a = some (.tup xs)) : IsiA K H (.ref a) "tuple" true :=
  ⟨_, _, .ty _, .base (.tup h), kit_ty (by decide +kernel)⟩
theorem isi_ntup {H : Hp} {v : V} (h : Th H v) (hn : ∀ a xs, v = .ref a → H a ≠ some (.tup xs)) : IsiA K H v "tuple" false := by
  cases h with
  | int i => exact ⟨_, _, .ty _, .base (.int i), kit_ty (by decide +kernel)⟩
  | bl b => exact ⟨_, _, .ty _, .base (.bl b), kit_ty (by decide +kernel)⟩
  | non => exact ⟨_, _, .ty _, .base .non, kit_ty (by decide +kernel)⟩
  | str s => exact ⟨_, _, .ty _, .base (.str s), kit_ty (by decide +kernel)⟩
  | lst h => exact ⟨_, _, .ty _, .base (.lst h), kit_ty (by decide +kernel)⟩
  | tup h => exact absurd h (hn _ _ rfl)
  | dct h => exact ⟨_, _, .ty _, .base (.dK h), kit_ty (by decide +kernel)⟩
/-! ### checks -/
def sp_is_integer : Sp := fun vs H Q _ => ∃ v, vs = [v] ∧ Th H v ∧ Ret H (fun x _ => x = .bl (isI v)) Q
theorem ok_is_integer (E : Env K mg) : FnOk P w K mg base CX0 1 E.d_is_integer.f E.d_is_integer.fd ["thing"] sp_is_integer := by
  refine E.d_is_integer.F.ok sc_is_integer (fun vs H Q E h => ?_) (fun cdv A outer s H vs Q E' hr h => ?_)
  · obtain ⟨v, rfl, _⟩ := h
    rfl
  · obtain ⟨v, rfl, hv, k⟩ := h
    refine ⟨_, PSs.nox (pss_one (ps_ret (pe_and (pe_callB call_isi (by rfl) E.f_isinstance (by decide +kernel) (pa_cons (pv 0) (pa_cons (pe_bltn (v := .ty "int") rfl E.f_int (by decide +kernel) rfl) pa_nil))) (pe_one (pe_not (pe_callB call_isi (by rfl) E.f_isinstance (by decide +kernel) (pa_cons (pv 0) (pa_cons (pe_bltn (v := .ty "bool") rfl E.f_bool (by decide +kernel) rfl) pa_nil)))))))), ?_⟩
    obtain ⟨t1, u1, i1, i2, i3⟩ := isi_int (K := K) hv
    refine ⟨v, rfl, v, _, t1, u1, _, rfl, i1, i2, i3, _, rfl, ?_⟩
    have e : isI v = (isIB v && !isB v) := by cases v <;> rfl
    rw [e] at k
    cases hb : isIB v with
    | false =>
      rw [hb] at k
      exact k.val (Ex.refl H)
    | true =>
      rw [hb] at k
      obtain ⟨t1, u1, i1, i2, i3⟩ := isi_bool (K := K) hv
      exact ⟨v, rfl, v, _, t1, u1, _, rfl, i1, i2, i3, _, rfl, k.val (Ex.refl H)⟩
def isIn (v : V) (lo hi : Int) : Bool := match v with
  | .int i => decide (lo ≤ i) && decide (i ≤ hi)
  | _ => false
def sp_is_within : Sp := fun vs H Q _ => ∃ v lo hi, vs = [v, .int lo, .int hi] ∧ Th H v ∧ Ret H (fun x _ => x = .bl (isIn v lo hi)) Q
theorem ok_is_within (E : Env K mg) : FnOk P w K mg base CX0 2 E.d_is_within.f E.d_is_within.fd ["thing", "least", "most"] sp_is_within := by
  refine E.d_is_within.F.ok sc_is_within (fun vs H Q E h => ?_) (fun cdv A outer s H vs Q E' hr h => ?_)
  · obtain ⟨v, lo, hi, rfl, _⟩ := h
    rfl
  · obtain ⟨v, lo, hi, rfl, hv, k⟩ := h
    refine ⟨_, PSs.nox (pss_one (ps_ret (pe_and (pe_call (ok_is_integer E) (hr.mono (by decide)) rfl E.d_is_integer.g E.d_is_integer.F.kp E.d_is_integer.b .nil pass0 (pa_cons (pv 0) pa_nil)) (pe_one (pe_chain op_le op_le (pv 1) (pv 0) (pv 2)))))), ?_⟩
    refine ⟨v, rfl, v, rfl, hv, ret_val fun H1 e1 => ⟨isI v, rfl, ?_⟩⟩
    cases v with
    | int i =>
      refine ⟨_, rfl, _, rfl, lo, i, rfl, rfl, _, rfl, ?_⟩
      have kk : Q (.bl (decide (lo ≤ i) && decide (i ≤ hi))) H1 := k.val e1
      cases h1 : decide (lo ≤ i) with
      | true =>
        rw [h1] at kk
        exact ⟨_, rfl, i, hi, rfl, rfl, kk⟩
      | false =>
        rw [h1] at kk
        exact kk
    | _ => exact k.val e1
theorem ev_within {σ : L2.St} {H : Hp} {t : TA} {v : V} {lo hi : Int} {b : Bool} {E : XK} (h : EvA t σ H [v, .int lo, .int hi]) (hv : Th H v) (hb : isIn v lo hi = b) : Ev (tCall sp_is_within [] E t) σ H (.bl b) := by
  subst hb
  exact ev_callV h fun H1 e1 Q r => ⟨v, lo, hi, rfl, hv.on e1, r⟩
theorem IsiA.ev {σ : L2.St} {H : Hp} {tx : TE} {v : V} {n : String} {b : Bool} (ha : Ev tx σ H v) (h : ∀ H1, Ex H H1 → IsiA K H1 v n b) : Ev (tCB (rIsi K) (tCons tx (tCons (tC (.ty n)) tNil))) σ H (.bl b) := ev_isi ha ev_c h
def sp_is_pair : Sp := fun vs H Q _ => ∃ a xs, vs = [.ref a] ∧ H a = some (.tup xs) ∧ Ret H (fun x _ => x = .bl (decide (xs.length = 2))) Q
theorem ok_is_pair (E : Env K mg) : FnOk P w K mg base CX0 1 E.d_is_pair.f E.d_is_pair.fd ["thing"] sp_is_pair := by
  refine E.d_is_pair.F.ok sc_is_pair (fun vs H Q E h => ?_) (fun cdv A outer s H vs Q E' hr h => ?_)
  · obtain ⟨a, xs, rfl, _⟩ := h
    rfl
  · obtain ⟨a, xs, rfl, ha, k⟩ := h
    refine ⟨_, PSs.nox (pss_one (ps_ret (pe_and (pe_callB call_isi (by rfl) E.f_isinstance (by decide +kernel) (pa_cons (pv 0) (pa_cons (pe_bltn (v := .ty "tuple") rfl E.f_tuple (by decide +kernel) rfl) pa_nil))) (pe_one (pe_cmpR op_eq (pe_callB call_len_seq (by rfl) E.f_len (by decide +kernel) (pa_cons (pv 0) pa_nil)) pe_int (nomark _)))))), ?_⟩
    obtain ⟨t1, u1, i1, i2, i3⟩ := isi_tup (K := K) ha
    refine ⟨_, rfl, _, _, t1, u1, _, rfl, i1, i2, i3, true, rfl, _, rfl, a, xs, rfl, .inr (SqT.of ha), rfl, ?_⟩
    have e : decide (V.int (xs.length : Int) = V.int 2) = decide (xs.length = 2) := by
      by_cases h : xs.length = 2
      · rw [h]
        rfl
      · rw [decide_eq_false h, decide_eq_false]
        intro z
        injection z with z
        omega
    show Q (.bl (decide (V.int (xs.length : Int) = V.int 2))) H
    rw [e]
    exact k.val (Ex.refl H)
/-- is_lot: the numbers stand in order, each below many -/
def numV : V → Int
  | .int i => i
  | _ => 0
def lotB (many : Int) : Int → List V → Bool
  | _, [] => true
  | last, v :: r => isIn v (last + 1) (many - 1) && lotB many (numV v) r
def sp_is_lot : Sp := fun vs H Q _ => ∃ v many, vs = [v, .int many] ∧ ((∃ a xs, v = .ref a ∧ H a = some (.tup xs) ∧ (∀ x, x ∈ xs → Th H x) ∧ Ret H (fun x _ => x = .bl (lotB many (-1) xs)) Q) ∨
  (Th H v ∧ (∀ a xs, v = .ref a → H a ≠ some (.tup xs)) ∧ Ret H (fun x _ => x = .bl false) Q))
theorem ok_is_lot (E : Env K mg) : FnOk P w K mg base CX0 3 E.d_is_lot.f E.d_is_lot.fd ["thing", "many"] sp_is_lot := by
  refine E.d_is_lot.F.ok sc_is_lot (fun vs H Q E h => ?_) (fun cdv A outer s H vs Q E' hr h => ?_)
  · obtain ⟨v, many, rfl, _⟩ := h
    rfl
  · obtain ⟨v, many, rfl, h⟩ := h
    refine ⟨_, PSs.nox (pss_cons (ps_if (pt_not (pt_val (pe_callB call_isi (by rfl) E.f_isinstance (by decide +kernel) (pa_cons (pv 0) (pa_cons (pe_bltn (v := .ty "tuple") rfl E.f_tuple (by decide +kernel) rfl) pa_nil))))) (pss_one (ps_ret pe_bl)) pss_nil) (pss_cons (ps_set (i := 2) sc_is_lot.nd rfl (by first | exact Or.inl rfl | exact Or.inr rfl) (pe_un un_neg pe_int)) (pss_cons (ps_for PassesOwn.never rfl (pi_tup (pv 0)) (pg_name (i := 3) sc_is_lot.nd rfl (by first | exact Or.inl rfl | exact Or.inr rfl)) (pss_cons (ps_if (pt_not (pt_val (pe_call (ok_is_within E) (hr.mono (by decide)) rfl E.d_is_within.g E.d_is_within.F.kp E.d_is_within.b .nil pass0 (pa_cons (pv 3) (pa_cons (pe_op op_add (pv 2) pe_int) (pa_cons (pe_op op_sub (pv 1) pe_int) pa_nil)))))) (pss_one (ps_ret pe_bl)) pss_nil) (pss_one (ps_set (i := 2) sc_is_lot.nd rfl (by first | exact Or.inl rfl | exact Or.inr rfl) (pv 3))))) (pss_one (ps_ret pe_bl))))), ?_⟩
    rcases h with ⟨a, xs, rfl, ha, hx, k⟩ | ⟨hv, hn, k⟩
    · obtain ⟨t1, u1, i1, i2, i3⟩ := isi_tup (K := K) ha
      refine ⟨_, rfl, _, _, t1, u1, _, rfl, i1, i2, i3, true, rfl, ?_⟩
      refine ⟨1, rfl, _, rfl, a, rfl, ⟨xs, SqT.of ha⟩, for_tup (fun i σ H' => ∃ last y, σ = [some (.ref a), some (.int many), some (.int last), y] ∧ Ex H H' ∧ lotB many last (xs.drop i) = lotB many (-1) xs) ⟨-1, none, rfl, Ex.refl H, rfl⟩
        (fun i σ H' _ h => by
          obtain ⟨_, _, _, e, _⟩ := h
          exact SqT.of (e _ _ ha)) (fun i x σ H' hi h => ?_) (fun σ H' h => ?_)⟩
      · obtain ⟨last, y, rfl, e1, el⟩ := h
        have hd : xs.drop i = x :: xs.drop (i + 1) := by
          obtain ⟨h1, h2⟩ := List.getElem?_eq_some_iff.mp hi
          rw [← h2]
          exact List.drop_eq_getElem_cons h1
        rw [hd] at el
        refine ⟨x, rfl, _, rfl, _, _, rfl, rfl, _, rfl, _, _, rfl, rfl, x, last + 1, many - 1, rfl, (hx x (List.mem_of_getElem? hi)).on e1, ret_val fun H2 e2 => ⟨_, rfl, ?_⟩⟩
        have el : (isIn x (last + 1) (many - 1) && lotB many (numV x) (xs.drop (i + 1))) = lotB many (-1) xs := el
        cases hb : isIn x (last + 1) (many - 1) with
        | false =>
          rw [hb] at el
          have e0 : lotB many (-1) xs = false := el.symm
          rw [e0] at k
          exact k.val (e1.trans e2)
        | true =>
          rw [hb] at el
          cases x with
          | int j => exact ⟨_, rfl, j, _, rfl, e1.trans e2, el⟩
          | _ => cases hb
      · obtain ⟨last, y, rfl, e1, el⟩ := h
        rw [List.drop_length] at el
        have e0 : lotB many (-1) xs = true := el.symm
        rw [e0] at k
        exact k.val e1
    · obtain ⟨t1, u1, i1, i2, i3⟩ := isi_ntup (K := K) hv hn
      exact ⟨_, rfl, _, _, t1, u1, _, rfl, i1, i2, i3, false, rfl, k.val (Ex.refl H)⟩
end
end Wk
end

section
set_option Elab.async false
set_option linter.all false
set_option maxRecDepth 100000
set_option maxHeartbeats 2000000
namespace Wk
open PySem PySem.Spec PyProof.Rows L2 Evl Rk
section
variable {K : PySem.W.Frag} {base : Heap} {mg : Str → Option Value} {P : Program} {w : World}
/-! ### spans -/
theorem all_true {α : Type} (l : List α) : ((l.map fun _ => true).all id) = true := by
  rw [List.all_eq_true]
  intro x hx
  obtain ⟨_, _, rfl⟩ := List.mem_map.mp hx
  rfl
def sp_is_prime : Sp := fun vs H Q _ => ∃ p : Int, vs = [.int p] ∧ 2 ≤ p ∧ p ≤ 251 ∧ (∀ o : Int, 2 ≤ o → o < p → p % o ≠ 0) ∧ Ret H (fun x _ => x = .bl true) Q
theorem ok_is_prime (E : Env K mg) : FnOk P w K mg base CX0 3 E.d_is_prime.f E.d_is_prime.fd ["thing"] sp_is_prime := by
  refine E.d_is_prime.F.ok sc_is_prime (fun vs H Q E h => ?_) (fun cdv A outer s H vs Q E' hr h => ?_)
  · obtain ⟨p, rfl, _⟩ := h
    rfl
  · obtain ⟨p, rfl, h1, h2, hp, k⟩ := h
    refine ⟨_, PSs.nox (pss_cons (ps_if (pt_not (pt_val (pe_call (ok_is_within E) (hr.mono (by decide)) rfl E.d_is_within.g E.d_is_within.F.kp E.d_is_within.b .nil pass0 (pa_cons (pv 0) (pa_cons (pe_glob (v := .int 2) rfl E.c_LEAST_PRIME.h ⟨_, rfl⟩) (pa_cons (pe_glob (v := .int 251) rfl E.c_MOST_PRIME.h ⟨_, rfl⟩) pa_nil)))))) (pss_one (ps_ret pe_bl)) pss_nil) (pss_one (ps_ret (pe_callB (cr_all rfl) (by rfl) E.f_all (by decide +kernel) (pa_cons (pe_lc (own := [("other", 1)]) (g := gName 1) rfl sc_is_prime.nd (pi_range2 rfl E.f_range (pa_cons pe_int (pa_cons (pv 0) pa_nil))) (blkOk_by (N := n_is_prime) (sc := defScope s_is_prime) (by decide +kernel)) (fun _ _ _ _ _ => (pg_name (i := 1) sc_is_prime.nd rfl (by first | exact Or.inl rfl | exact Or.inr rfl))) (fun _ _ _ _ _ => pts_nil) (fun _ _ _ _ _ => (pe_cmpR op_ne (pe_op op_mod (pv 0) (pv 1)) pe_int (nomark _)))) pa_nil))))), ?_⟩
    refine q_when (b := false) (et_not (a := true) (et_B (ev_within (lo := 2) (hi := 251) (ea_cons (ev_var rfl) (ea_cons ev_c (ea_cons ev_c ea_nil))) (.int p) ?_))) (fun h => nomatch h) fun _ H1 e1 => ?_
    · show (decide (2 ≤ p) && decide (p ≤ 251)) = true
      rw [decide_eq_true h1, decide_eq_true h2] <;> rfl
    · refine s_ret (ev_all (lc_mapW (as := List.range (p - 2).toNat) (rep := fun i : Nat => V.int (2 + (i : Int))) (ei_rng2 (ea_cons ev_c (ea_cons (ev_var rfl) ea_nil)) (by omega) (by omega)) V.bl (fun _ => true) (by rw [List.length_range]; omega) (fun _ => by rfl) fun a H2 e2 ha => ?_)) fun H2 e2 => ?_
      · have ha2 : a < (p - 2).toNat := List.mem_range.mp ha
        have ne : p % (2 + (a : Int)) ≠ 0 := hp _ (by omega) (by omega)
        refine ev_is (ev_op (ev_op (ev_var rfl) (ev_var rfl) (rv_I (show (0 : Int) < 2 + (a : Int) by omega))) ev_c (rv_ne rfl)) ?_
        show V.bl (!decide (V.int (p % (2 + (a : Int))) = V.int 0)) = _
        rw [decide_eq_false (fun z => ne (V.int.inj z))] <;> rfl
      · rw [all_true]
        exact k.val (e1.trans e2)
def sp_is_sum : Sp := fun vs H Q _ => ∃ (p : Int) (a : Addr) (r : List Int), vs = [.int p, .ref a] ∧ H a = some (.tup (r.map V.int)) ∧ 1 ≤ r.length ∧ r.length ≤ 10 ∧ (∀ x, x ∈ r → 0 ≤ x ∧ x < p) ∧ (∃ x, x ∈ r ∧ x ≠ 0) ∧ Ret H (fun x _ => x = .bl true) Q
theorem ok_is_sum (E : Env K mg) : FnOk P w K mg base CX0 3 E.d_is_sum.f E.d_is_sum.fd ["prime", "thing"] sp_is_sum := by
  refine E.d_is_sum.F.ok sc_is_sum (fun vs H Q E h => ?_) (fun cdv A outer s H vs Q E' hr h => ?_)
  · obtain ⟨p, a, r, rfl, _⟩ := h
    rfl
  · obtain ⟨p, a, r, rfl, ha, l1, l2, hx, ⟨x0, hx0, nz⟩, k⟩ := h
    refine ⟨_, PSs.nox (pss_cons (ps_if (PW.pt (pw_or (pt_not (pt_val (pe_callB call_isi (by rfl) E.f_isinstance (by decide +kernel) (pa_cons (pv 1) (pa_cons (pe_bltn (v := .ty "tuple") rfl E.f_tuple (by decide +kernel) rfl) pa_nil))))) (pw_or1 (pt_not (pt_chain op_le op_le pe_int (pe_callB call_len_seq (by rfl) E.f_len (by decide +kernel) (pa_cons (pv 1) pa_nil)) (pe_glob (v := .int 10) rfl E.c_MOST_WIDTH.h ⟨_, rfl⟩)))))) (pss_one (ps_ret pe_bl)) pss_nil) (pss_one (ps_ret (pe_and (pe_callB (cr_all rfl) (by rfl) E.f_all (by decide +kernel) (pa_cons (pe_lc (own := [("value", 2)]) (g := gName 2) rfl sc_is_sum.nd (pi_tup (pv 1)) (blkOk_by (N := n_is_sum) (sc := defScope s_is_sum) (by decide +kernel)) (fun _ _ _ _ _ => (pg_name (i := 2) sc_is_sum.nd rfl (by first | exact Or.inl rfl | exact Or.inr rfl))) (fun _ _ _ _ _ => pts_nil) (fun _ _ _ _ _ => (pe_call (ok_is_within E) (hr.mono (by decide)) rfl E.d_is_within.g E.d_is_within.F.kp E.d_is_within.b .nil pass0 (pa_cons (pv 2) (pa_cons pe_int (pa_cons (pe_op op_sub (pv 0) pe_int) pa_nil)))))) pa_nil)) (pe_one (pe_callB (cr_any rfl) (by rfl) E.f_any (by decide +kernel) (pa_cons (pe_lc (own := [("value", 2)]) (g := gName 2) rfl sc_is_sum.nd (pi_tup (pv 1)) (blkOk_by (N := n_is_sum) (sc := defScope s_is_sum) (by decide +kernel)) (fun _ _ _ _ _ => (pg_name (i := 2) sc_is_sum.nd rfl (by first | exact Or.inl rfl | exact Or.inr rfl))) (fun _ _ _ _ _ => pts_nil) (fun _ _ _ _ _ => (pe_cmpR op_ne (pv 2) pe_int (nomark _)))) pa_nil))))))), ?_⟩
    have hlen : (r.map V.int).length = r.length := List.length_map ..
    refine q_when (b := false) (et_or (a := false) (b := false) (et_not (a := true) (et_B (IsiA.ev (ev_var rfl) fun H1 e1 => isi_tup (e1 _ _ ha)))) fun _ => et_not (a := true) (et_test (ev_chain (b1 := true) (b2 := true) (z := .int 10) ev_c (ev_lenS (ev_var rfl) (.inr (SqT.of ha))) ?_ (fun _ => ev_c) fun _ => ?_))) (fun h => nomatch h) fun _ H1 e1 => ?_
    · rw [hlen]
      exact rv_b (congrArg V.bl (decide_eq_true (show (1 : Int) ≤ (r.length : Int) by omega)))
    · rw [hlen]
      exact rv_b (congrArg V.bl (decide_eq_true (show (r.length : Int) ≤ 10 by omega)))
    · refine s_ret (ev_andV (a := true) (b := true) ?_ fun _ => ?_) fun H2 e2 => k.val (e1.trans e2)
      · refine ev_bl (ev_all (lc_mapW (as := r) (rep := V.int) (ei_tup (ev_var rfl) (SqT.of (e1 _ _ ha))) V.bl (fun _ => true) (by omega) (fun _ => by rfl) fun y H2 e2 hy => ?_)) (all_true _)
        obtain ⟨h3, h4⟩ := hx y hy
        refine ev_within (ea_cons (ev_var rfl) (ea_cons ev_c (ea_cons (ev_op (ev_var rfl) ev_c rv_I0) ea_nil))) (.int y) ?_
        show (decide (0 ≤ y) && decide (y ≤ p - 1)) = true
        rw [decide_eq_true h3, decide_eq_true (show y ≤ p - 1 by omega)] <;> rfl
      · refine ev_bl (ev_any (lc_mapW (as := r) (rep := V.int) (ei_tup (ev_var rfl) (SqT.of (e1 _ _ ha))) V.bl (fun y => !decide (V.int y = V.int 0)) (by omega) (fun _ => by rfl) fun y H2 e2 hy => ?_)) ?_
        · exact ev_op (ev_var rfl) ev_c (rv_ne rfl)
        · rw [List.any_eq_true]
          refine ⟨_, List.mem_map.mpr ⟨x0, hx0, rfl⟩, ?_⟩
          show (!decide (V.int x0 = V.int 0)) = true
          rw [decide_eq_false (fun z => nz (V.int.inj z))] <;> rfl
def sp_inverse : Sp := fun vs H Q _ => ∃ p v : Int, vs = [.int p, .int v] ∧ 2 ≤ p ∧ p ≤ 251 ∧ Mth.Inv p ∧ 0 < v ∧ v < p ∧ Ret H (fun x _ => ∃ d : Int, x = .int d ∧ 1 ≤ d ∧ d < p ∧ d * v % p = 1) Q
theorem ok_inverse (E : Env K mg) : FnOk P w K mg base CX0 1 E.d_inverse.f E.d_inverse.fd ["prime", "value"] sp_inverse := by
  refine E.d_inverse.F.ok sc_inverse (fun vs H Q E h => ?_) (fun cdv A outer s H vs Q E' hr h => ?_)
  · obtain ⟨p, v, rfl, _⟩ := h
    rfl
  · obtain ⟨p, v, rfl, h1, h2, hi, v1, v2, k⟩ := h
    refine ⟨_, PSs.nox (pss_one (ps_ret (pe_ix ix_list (pe_lc (own := [("one", 2)]) (g := gName 2) rfl sc_inverse.nd (pi_range2 rfl E.f_range (pa_cons pe_int (pa_cons (pv 0) pa_nil))) (blkOk_by (N := n_inverse) (sc := defScope s_inverse) (by decide +kernel)) (fun _ _ _ _ _ => (pg_name (i := 2) sc_inverse.nd rfl (by first | exact Or.inl rfl | exact Or.inr rfl))) (fun _ _ _ _ _ => (pts_one (pt_cmpR op_eq (pe_op op_mod (pe_op op_mul (pv 2) (pv 1)) (pv 0)) pe_int (nomark _)))) (fun _ _ _ _ _ => (pv 2))) pe_int (fun _ _ => rfl)))), ?_⟩
    refine s_retP (evp_opP (lc_fmap (as := List.range (p - 1).toNat) (rep := fun i : Nat => V.int (1 + (i : Int))) (ei_rng2 (ea_cons ev_c (ea_cons (ev_var rfl) ea_nil)) (by omega) (by omega)) (fun i : Nat => decide (V.int ((1 + (i : Int)) * v % p) = V.int 1)) (fun i => .int (1 + (i : Int))) (by rw [List.length_range]; omega) (fun _ => by rfl) (fun a H2 e2 ha => ?_) fun a H2 e2 ha _ => ?_) ev_c fun u H1 e1 pu Q1 r1 => ?_) k
    · have ha2 : a < (p - 1).toNat := List.mem_range.mp ha
      exact et_test (ev_op (ev_op (ev_op (ev_var rfl) (ev_var rfl) (rv_I (.inl ⟨by omega, by omega⟩))) (ev_var rfl) (rv_I (show (0 : Int) < p by omega))) ev_c (rv_eq rfl))
    · exact ev_var rfl
    · obtain ⟨d, d1, d2, d3⟩ := hi v v1 v2
      obtain ⟨D, rfl, _, h2'⟩ := pu.now
      have hm : (d - 1).toNat ∈ (List.range (p - 1).toNat).filter (fun i : Nat => decide (V.int ((1 + (i : Int)) * v % p) = V.int 1)) := by
        refine List.mem_filter.mpr ⟨List.mem_range.mpr (by omega), decide_eq_true ?_⟩
        have e : (1 : Int) + ((d - 1).toNat : Int) = d := by omega
        rw [e, d3]
      generalize hf : (List.range (p - 1).toNat).filter (fun i : Nat => decide (V.int ((1 + (i : Int)) * v % p) = V.int 1)) = l at hm h2'
      cases l with
      | nil => cases hm
      | cons i l =>
        have hm2 : i ∈ (List.range (p - 1).toNat).filter (fun i : Nat => decide (V.int ((1 + (i : Int)) * v % p) = V.int 1)) := by
          rw [hf]
          exact List.mem_cons_self
        obtain ⟨m1, m2⟩ := List.mem_filter.mp hm2
        have m3 : i < (p - 1).toNat := List.mem_range.mp m1
        refine ⟨D, _, 0, .int (1 + (i : Int)), rfl, rfl, SqL.of h2', atI_nat (j := 0) rfl, ?_⟩
        exact r1 _ H1 (Ex.refl _) fun _ _ => ⟨_, rfl, by omega, by omega, V.int.inj (of_decide_eq_true m2)⟩
def sp_less_times (K : PySem.W.Frag) : Sp := fun vs H Q _ => ∃ (p t : Int) (a b : Addr) (r o : List Int), vs = [.int p, .ref a, .int t, .ref b] ∧ SqL K H a (r.map V.int) ∧ SqL K H b (o.map V.int) ∧ r.length = o.length ∧ r.length ≤ 10 ∧ 0 < p ∧ -(2 ^ 62) < t ∧ t < 2 ^ 62 ∧
  Ret H (NewL H ((Mth.less p r t o).map V.int)) Q
theorem ok_less_times (E : Env K mg) : FnOk P w K mg base CX0 1 E.d_less_times.f E.d_less_times.fd ["prime", "row", "times", "other"] (sp_less_times K) := by
  refine E.d_less_times.F.ok sc_less_times (fun vs H Q E h => ?_) (fun cdv A outer s H vs Q E' hr h => ?_)
  · obtain ⟨p, t, a, b, r, o, rfl, _⟩ := h
    rfl
  · obtain ⟨p, t, a, b, r, o, rfl, ha, hb, hl, h10, hp, t1, t2, k⟩ := h
    refine ⟨_, PSs.nox (pss_one (ps_ret (pe_lc (own := [("one", 4), ("two", 5)]) (g := gTup K 2 (gCons (gName 4) (gCons (gName 5) gNil))) rfl sc_less_times.nd (pi_zip (by rfl) E.f_zip (pa_cons (pv 1) (pa_cons (pv 3) pa_nil))) (blkOk_by (N := n_less_times) (sc := defScope s_less_times) (by decide +kernel)) (fun _ _ _ _ _ => (pg_tup rfl (pgs_cons (pg_name (i := 4) sc_less_times.nd rfl (by first | exact Or.inl rfl | exact Or.inr rfl)) (pgs_cons (pg_name (i := 5) sc_less_times.nd rfl (by first | exact Or.inl rfl | exact Or.inr rfl)) pgs_nil)))) (fun _ _ _ _ _ => pts_nil) (fun _ _ _ _ _ => (pe_op op_mod (pe_op op_sub (pv 4) (pe_op op_mul (pv 2) (pv 5))) (pv 0)))))), ?_⟩
    have hz : (List.zip r o).length = (r.map V.int).length := by
      rw [List.length_zip, List.length_map]
      omega
    have hz2 : (List.zip r o).length ≤ 16000000 := by
      rw [hz, List.length_map]
      omega
    refine s_retP (lc_pairP (as := List.zip r o) (ei_zip (ea_cons (ev_var rfl) (ea_cons (ev_var rfl) ea_nil)) ha hb (by rw [List.length_map, List.length_map]; exact hl)) hz (fun _ => true) (fun q => .int ((q.1 - t * q.2) % p)) hz2 (fun _ _ => by rfl) (fun _ _ _ _ _ _ _ _ _ => et_yes) (fun i q x y H1 e1 hq hx hy _ => ?_)) fun v H1 e1 pv => ?_
    · obtain ⟨q1, q2⟩ := List.getElem?_zip_eq_some.mp hq
      rw [List.getElem?_map, q1] at hx
      rw [List.getElem?_map, q2] at hy
      obtain rfl : V.int q.1 = x := Option.some.inj hx
      obtain rfl : V.int q.2 = y := Option.some.inj hy
      exact ev_op (ev_op (ev_var rfl) (ev_op (ev_var rfl) (ev_var rfl) (rv_I (.inl ⟨by omega, by omega⟩))) rv_I0) (ev_var rfl) (rv_I hp)
    · rw [show ((List.zip r o).filter fun _ => true) = List.zip r o from List.filter_eq_self.mpr fun _ _ => rfl] at pv
      refine k _ H1 e1 ?_
      have e : (Mth.less p r t o).map V.int = (List.zip r o).map fun q => V.int ((q.1 - t * q.2) % p) := by
        unfold Mth.less
        rw [show List.zipWith (fun a b => (a - t * b) % p) r o = (List.zip r o).map fun q => (q.1 - t * q.2) % p from by rw [List.zip, List.map_zipWith], List.map_map]
        rfl
      rw [e]
      exact pv
/-- the first place that is not 0 -/
def FirstAt (r : List Int) (x : V) : Prop := (x = .non ∧ ∀ y, y ∈ r → y = 0) ∨ ∃ i : Nat, x = nV i ∧ i < r.length ∧ r.getD i 0 ≠ 0
def sp_first_place (K : PySem.W.Frag) : Sp := fun vs H Q _ => ∃ (a : Addr) (r : List Int), vs = [.ref a] ∧ SqL K H a (r.map V.int) ∧ r.length ≤ 10 ∧ Ret H (fun x _ => FirstAt r x) Q
theorem ok_first_place (E : Env K mg) : FnOk P w K mg base CX0 1 E.d_first_place.f E.d_first_place.fd ["row"] (sp_first_place K) := by
  refine E.d_first_place.F.ok sc_first_place (fun vs H Q E h => ?_) (fun cdv A outer s H vs Q E' hr h => ?_)
  · obtain ⟨a, r, rfl, _⟩ := h
    rfl
  · obtain ⟨a, r, rfl, ha, h10, k⟩ := h
    refine ⟨_, PSs.nox (pss_cons (ps_setLc (i := 1) (own := [("place", 2), ("value", 3)]) (g := gTup K 2 (gCons (gName 2) (gCons (gName 3) gNil))) rfl sc_first_place.nd rfl rfl (sw_true rfl rfl rfl (by decide +kernel)) (pi_enum (by rfl) E.f_enumerate (pa_cons (pv 0) pa_nil)) (blkOk_by (N := n_first_place) (sc := defScope s_first_place) (by decide +kernel)) (fun _ _ _ _ _ => (pg_tup rfl (pgs_cons (pg_name (i := 2) sc_first_place.nd rfl (by first | exact Or.inl rfl | exact Or.inr rfl)) (pgs_cons (pg_name (i := 3) sc_first_place.nd rfl (by first | exact Or.inl rfl | exact Or.inr rfl)) pgs_nil)))) (fun _ _ _ _ _ => (pts_one (pt_cmpR op_ne (pv 3) pe_int (nomark _)))) (fun _ _ _ _ _ => (pv 2))) (pss_one (ps_ret (pe_ifExp (pt_cmpR op_gt (pe_callB call_len_seq (by rfl) E.f_len (by decide +kernel) (pa_cons (pv 1) pa_nil)) pe_int (nomark _)) (pe_ix ix_list (pv 1) pe_int (fun _ _ => rfl)) pe_non)))), ?_⟩
    refine q_asgP (lc_pairP (as := List.range r.length) (ei_enum (ea_cons (ev_var rfl) ea_nil) ha) (by rw [List.length_range, List.length_map]) (fun i => !decide (V.int (r.getD i 0) = V.int 0)) nV (by rw [List.length_range]; omega) (fun _ _ => by rfl) (fun i q x y H1 e1 hq hx hy => ?_) (fun i q x y H1 e1 hq hx hy _ => ?_)) fun v H1 e1 pv => ?_
    · obtain ⟨hi, rfl⟩ := List.getElem?_eq_some_iff.mp hq
      rw [List.getElem_range]
      rw [List.length_range] at hi
      rw [List.getElem?_map, List.getElem?_eq_getElem hi] at hy
      obtain rfl : V.int r[i] = y := Option.some.inj hy
      have eg : r.getD i 0 = r[i] := by simp [hi]
      rw [eg]
      exact et_test (ev_op (ev_var rfl) ev_c (rv_ne rfl))
    · obtain ⟨hi, rfl⟩ := List.getElem?_eq_some_iff.mp hq
      rw [List.getElem_range]
      obtain rfl : V.int (i : Int) = x := Option.some.inj hx
      exact ev_var rfl
    · obtain ⟨D, rfl, _, h1⟩ := pv.now
      generalize hf : (List.range r.length).filter (fun i => !decide (V.int (r.getD i 0) = V.int 0)) = l at h1
      refine ⟨_, rfl, D, _, rfl, .inl (SqL.of h1), _, _, rfl, rfl, _, rfl, ?_⟩
      cases l with
      | nil =>
        refine k _ H1 e1 fun _ _ => .inl ⟨rfl, fun y hy => ?_⟩
        obtain ⟨i, hi, rfl⟩ := List.mem_iff_getElem.mp hy
        have q := List.filter_eq_nil_iff.mp hf i (List.mem_range.mpr hi)
        have eg : r.getD i 0 = r[i] := by simp [hi]
        rw [eg] at q
        by_cases hz : r[i] = 0
        · exact hz
        · exact absurd (by rw [decide_eq_false (fun z => hz (V.int.inj z))]; rfl) q
      | cons i l =>
        have hm : i ∈ (List.range r.length).filter (fun i => !decide (V.int (r.getD i 0) = V.int 0)) := by
          rw [hf]
          exact List.mem_cons_self
        obtain ⟨m1, m2⟩ := List.mem_filter.mp hm
        have e0 : decide ((0 : Int) < (((i :: l).map nV).length : Int)) = true := decide_eq_true (by rw [List.length_map, List.length_cons]; omega)
        rw [e0]
        refine ⟨_, rfl, D, _, 0, nV i, rfl, rfl, SqL.of h1, atI_nat (j := 0) rfl, ?_⟩
        refine k _ H1 e1 fun _ _ => .inr ⟨i, rfl, List.mem_range.mp m1, fun z => ?_⟩
        rw [z] at m2
        cases m2
end
end Wk
end

section
set_option Elab.async false
set_option linter.all false
set_option maxRecDepth 100000
set_option maxHeartbeats 2000000
namespace Wk
open PySem PySem.Spec PyProof.Rows L2 Evl Rk
/-! ### dicts whose keys are small whole numbers -/
theorem keys_put {κ : Type} [DecidableEq κ] {kvs : List (κ × V)} {k : κ} {v : V} : (putK kvs k v).map (·.1) = if (valV kvs k).isSome then kvs.map (·.1) else kvs.map (·.1) ++ [k] := by
  unfold putK
  rw [valV_any]
  cases (valV kvs k).isSome with
  | true =>
    simp only [if_true, List.map_map]
    refine List.map_congr_left fun kv _ => ?_
    show (if kv.1 = k then (kv.1, v) else kv).1 = kv.1
    split <;> rfl
  | false => simp
theorem valV_some_mem {κ : Type} [DecidableEq κ] {kvs : List (κ × V)} {k : κ} {v : V} (h : valV kvs k = some v) : (k, v) ∈ kvs := by
  unfold valV at h
  cases e : kvs.find? fun kv => decide (kv.1 = k) with
  | none =>
    rw [e] at h
    cases h
  | some kv =>
    rw [e] at h
    obtain rfl : kv.2 = v := Option.some.inj h
    have h1 : kv.1 = k := of_decide_eq_true (List.find?_some (p := fun kv : κ × V => decide (kv.1 = k)) e)
    rw [← h1]
    exact List.mem_of_find?_eq_some e
theorem valV_none_key {κ : Type} [DecidableEq κ] {kvs : List (κ × V)} {k : κ} (h : valV kvs k = none) : k ∉ kvs.map (·.1) := by
  intro hm
  obtain ⟨kv, h1, h2⟩ := List.mem_map.mp hm
  unfold valV at h
  cases e : kvs.find? fun kv => decide (kv.1 = k) with
  | none =>
    have q := List.find?_eq_none.mp e kv h1
    exact q (decide_eq_true h2)
  | some kv =>
    rw [e] at h
    cases h
theorem valV_of_mem {κ : Type} [DecidableEq κ] : ∀ {kvs : List (κ × V)} {k : κ} {v : V}, (kvs.map (·.1)).Nodup → (k, v) ∈ kvs → valV kvs k = some v
  | [], _, _, _, h => nomatch h
  | kv :: r, k, v, nd, h => by
    rw [List.map_cons, List.nodup_cons] at nd
    rcases List.mem_cons.mp h with e | h
    · subst e
      exact valV_pos rfl
    · have ne : ¬ kv.1 = k := fun e => nd.1 (by rw [e]; exact List.mem_map.mpr ⟨_, h, rfl⟩)
      rw [valV_neg ne]
      exact valV_of_mem nd.2 h
structure MadeOk (p : Int) (kvs : List (Key × V)) : Prop where
  key : ∀ k, k ∈ kvs.map (·.1) → ∃ i : Nat, i < 60 ∧ k = .inl (i : Int)
  val : ∀ kv, kv ∈ kvs → ∃ x : Int, kv.2 = .int x ∧ 0 ≤ x ∧ x < p
  nd : (kvs.map (·.1)).Nodup
theorem MadeOk.nil {p : Int} : MadeOk p [] := ⟨fun _ h => (nomatch h), fun _ h => (nomatch h), List.nodup_nil⟩
theorem MadeOk.len {p : Int} {kvs : List (Key × V)} (h : MadeOk p kvs) : kvs.length ≤ 60 := by
  have q := Mth.nodup_len (m := (List.range 60).map fun i : Nat => (Sum.inl (i : Int) : Key)) h.nd fun k hk => by
    obtain ⟨i, hi, rfl⟩ := h.key k hk
    exact List.mem_map.mpr ⟨i, List.mem_range.mpr hi, rfl⟩
  rw [List.length_map, List.length_map, List.length_range] at q
  exact q
theorem MadeOk.small {p : Int} {kvs : List (Key × V)} (h : MadeOk p kvs) : kvs.length < sizeLine := Nat.lt_of_le_of_lt h.len (by decide)
theorem MadeOk.get {p : Int} {kvs : List (Key × V)} {k : Key} {v : V} (h : MadeOk p kvs) (e : valV kvs k = some v) : ∃ x : Int, v = .int x ∧ 0 ≤ x ∧ x < p := h.val _ (valV_some_mem e)
theorem MadeOk.get0 {p : Int} {kvs : List (Key × V)} (k : Key) (h : MadeOk p kvs) (hp : 0 < p) : ∃ x : Int, (valV kvs k).getD (.int 0) = .int x ∧ 0 ≤ x ∧ x < p := by
  cases e : valV kvs k with
  | none => exact ⟨0, rfl, Int.le_refl _, hp⟩
  | some v => exact h.get e
theorem MadeOk.put {p x : Int} {kvs : List (Key × V)} {i : Nat} (h : MadeOk p kvs) (hi : i < 60) (h0 : 0 ≤ x) (h1 : x < p) : MadeOk p (putK kvs (.inl (i : Int)) (.int x)) := by
  refine ⟨fun k hk => ?_, fun kv hkv => ?_, ?_⟩
  · rw [keys_put] at hk
    split at hk
    · exact h.key k hk
    · rcases List.mem_append.mp hk with hk | hk
      · exact h.key k hk
      · exact ⟨i, hi, List.mem_singleton.mp hk⟩
  · unfold putK at hkv
    split at hkv
    · obtain ⟨q, hq, rfl⟩ := List.mem_map.mp hkv
      split
      · exact ⟨x, rfl, h0, h1⟩
      · exact h.val q hq
    · rcases List.mem_append.mp hkv with hkv | hkv
      · exact h.val kv hkv
      · rw [List.mem_singleton.mp hkv]
        exact ⟨x, rfl, h0, h1⟩
  · rw [keys_put]
    split
    · exact h.nd
    · rename_i hs
      have hn : valV kvs (.inl (i : Int)) = none := by
        cases e : valV kvs (.inl (i : Int)) with
        | none => rfl
        | some v =>
          rw [e] at hs
          exact absurd rfl hs
      rw [List.nodup_append]
      refine ⟨h.nd, by simp, fun a ha b hb z => ?_⟩
      rw [List.mem_singleton.mp hb] at z
      rw [z] at ha
      exact valV_none_key hn ha
theorem nodup_inj {α β : Type} {f : α → β} (hf : ∀ a b, f a = f b → a = b) : ∀ {l : List α}, l.Nodup → (l.map f).Nodup
  | [], _ => List.nodup_nil
  | a :: r, h => by
    obtain ⟨h1, h2⟩ := List.nodup_cons.mp h
    rw [List.map_cons]
    refine List.nodup_cons.mpr ⟨fun m => ?_, nodup_inj hf h2⟩
    obtain ⟨b, hb, e⟩ := List.mem_map.mp m
    rw [← hf b a e] at h1
    exact h1 hb
/-! ### the steps' rows -/
/-- one entry: a row kept, and some parts -/
def EntAt (p : Int) (b : Nat × List Int) (v : V) (H : Hp) : Prop := ∃ (t r d : Addr) (mk : List (Key × V)), v = .ref t ∧ H t = some (.tup [.ref r, .ref d]) ∧ H r = some (.lst (b.2.map V.int)) ∧ H d = some (.dK mk) ∧ MadeOk p mk
theorem EntAt.on {p : Int} {b : Nat × List Int} {v : V} {H H' : Hp} (e : Ex H H') (h : EntAt p b v H) : EntAt p b v H' := by
  obtain ⟨t, r, d, mk, h1, h2, h3, h4, h5⟩ := h
  exact ⟨t, r, d, mk, h1, e _ _ h2, e _ _ h3, e _ _ h4, h5⟩
def KeptAt (p : Int) (kept : List (Nat × List Int)) (kvs : List (Key × V)) (H : Hp) : Prop := Paired (fun (b : Nat × List Int) (kv : Key × V) => kv.1 = .inl (b.1 : Int) ∧ EntAt p b kv.2 H) kept kvs
theorem KeptAt.on {p : Int} {kept : List (Nat × List Int)} {kvs : List (Key × V)} {H H' : Hp} (e : Ex H H') (h : KeptAt p kept kvs H) : KeptAt p kept kvs H' := h.mono fun _ _ q => ⟨q.1, q.2.on e⟩
theorem KeptAt.keys {p : Int} {H : Hp} : ∀ {kept : List (Nat × List Int)} {kvs : List (Key × V)}, KeptAt p kept kvs H → kvs.map (·.1) = (kept.map fun b => ((b.1 : Nat) : Int)).map Sum.inl
  | _, _, .nil => rfl
  | _, _, .cons h t => by
    have ih := KeptAt.keys t
    rw [List.map_cons, List.map_cons, List.map_cons, ih, h.1]
theorem KeptAt.get {p : Int} {H : Hp} {kept : List (Nat × List Int)} {kvs : List (Key × V)} (h : KeptAt p kept kvs H) (nd : (kept.map (·.1)).Nodup) {b : Nat × List Int} (hb : b ∈ kept) : ∃ v, valV kvs (.inl (b.1 : Int)) = some v ∧ EntAt p b v H := by
  obtain ⟨kv, h1, h2, h3⟩ := paired_mem h hb
  refine ⟨kv.2, valV_of_mem ?_ ?_, h3⟩
  · rw [h.keys, List.map_map]
    have e : (kept.map ((Sum.inl : Int → Key) ∘ fun b => ((b.1 : Nat) : Int))) = (kept.map (·.1)).map fun n : Nat => (Sum.inl (n : Int) : Key) := by
      rw [List.map_map]
      rfl
    rw [e]
    refine nodup_inj (fun a b hab => ?_) nd
    have q : (a : Int) = (b : Int) := Sum.inl.inj hab
    omega
  · rw [← h2]
    exact h1
end Wk
end

section
set_option Elab.async false
set_option linter.all false
set_option maxRecDepth 100000
set_option maxHeartbeats 2000000
namespace Wk
open PySem PySem.Spec PyProof.Rows L2 Evl Rk
/-! ### heaps without one address -/
def rm (H : Hp) (d : Addr) : Hp := fun a => if a = d then none else H a
theorem rm_ne {H : Hp} {d a : Addr} (h : a ≠ d) : rm H d a = H a := if_neg h
theorem rm_same {H : Hp} {d : Addr} : rm H d d = none := if_pos rfl
theorem rm_ex {H : Hp} {d : Addr} : Ex (rm H d) H := fun a o h => by
  have hn : a ≠ d := fun z => by
    rw [z, rm_same] at h
    cases h
  rw [rm_ne hn] at h
  exact h
theorem rm_upd {H : Hp} {d : Addr} {o : HO} : rm (upd H d o) d = rm H d := by
  funext a
  by_cases h : a = d
  · rw [h, rm_same, rm_same]
  · rw [rm_ne h, rm_ne h, upd_ne h]
theorem rm_mono {H H' : Hp} {d : Addr} (e : Ex H H') : Ex (rm H d) (rm H' d) := fun a o h => by
  have hn : a ≠ d := fun z => by
    rw [z, rm_same] at h
    cases h
  rw [rm_ne hn] at h ⊢
  exact e _ _ h
theorem rm_none {H : Hp} {d : Addr} (h : H d = none) : Ex H (rm H d) := fun a o e => by
  have hn : a ≠ d := fun z => by
    rw [z, h] at e
    cases e
  rw [rm_ne hn]
  exact e
theorem rm_upd_ex {H : Hp} {d : Addr} {o : HO} : Ex (rm H d) (upd H d o) := by
  have h := rm_ex (H := upd H d o) (d := d)
  rw [rm_upd] at h
  exact h
theorem upd_back {H : Hp} {d : Addr} {o u : HO} (h : H d = some o) : upd (upd H d u) d o = H := by
  funext a
  by_cases z : a = d
  · rw [z, upd_same, h]
  · rw [upd_ne z, upd_ne z]
section
variable {K : PySem.W.Frag} {base : Heap} {mg : Str → Option Value} {P : Program} {w : World}
/-! ### Steps -/
def sfs (p : Int) (kd : Addr) : List (Str × V) := [("kept_prime", .int p), ("kept_rows", .ref kd)]
theorem sfs_prime (p : Int) (kd : Addr) : (sfs p kd).lookup ("kept_prime" : Str) = some (.int p) := rfl
theorem sfs_rows (p : Int) (kd : Addr) : (sfs p kd).lookup ("kept_rows" : Str) = some (.ref kd) := by
  unfold sfs
  rw [List.lookup_cons]
  rw [show (("kept_rows" : Str) == "kept_prime") = false by decide]
  rfl
theorem sfs_no (p : Int) (kd : Addr) {m : Str} (h1 : (m == ("kept_prime" : Str)) = false) (h2 : (m == ("kept_rows" : Str)) = false) : (sfs p kd).lookup m = none := by
  unfold sfs
  rw [List.lookup_cons, h1]
  show List.lookup m [(("kept_rows" : Str), V.ref kd)] = none
  rw [List.lookup_cons, h2]
  rfl
theorem put_prime (p : Int) : putF "kept_prime" (.int p) [] = [(("kept_prime" : Str), V.int p)] := rfl
theorem put_rows (p : Int) (kd : Addr) : putF "kept_rows" (.ref kd) [(("kept_prime" : Str), V.int p)] = sfs p kd := by
  show (if ("kept_prime" : Str) = "kept_rows" then _ else _) = _
  rw [if_neg (by decide)]
  rfl
theorem put_rows2 (p : Int) (kd rd : Addr) : putF "kept_rows" (.ref rd) (sfs p kd) = sfs p rd := by
  show (if ("kept_prime" : Str) = "kept_rows" then _ else _) = _
  rw [if_neg (by decide)]
  show (("kept_prime" : Str), V.int p) :: (if ("kept_rows" : Str) = "kept_rows" then _ else _) = _
  rw [if_pos rfl]
  rfl
theorem ev_fld {σ : L2.St} {H : Hp} {ta : TE} {x C dx : Addr} {fs : List (Str × V)} {f : Str} {v : V} (h : Ev ta σ H (.ref x)) (ho : H x = some (.ins C dx fs)) (hc : Cls K C) (hn : NoAttr K C f) (hl : fs.lookup f = some v) : Ev (tFld K ta f) σ H v :=
  fun H1 e1 Q q => h H1 e1 _ fun H2 e2 => ⟨x, C, dx, fs, v, rfl, e2 _ _ (e1 _ _ ho), hc, hn, hl, q H2 e2⟩
theorem dget_on {H H' : Hp} {a : Addr} {y : V} {r : Option V} (e : Ex H H') (h : DGet H a y r) : DGet H' a y r := by
  rcases h with ⟨kvs, k, h1, h2, h3⟩ | ⟨kvs, k, b, h1, h2, h3, h4⟩
  · exact .inl ⟨kvs, k, ex_rd e h1, h2, h3⟩
  · exact .inr ⟨kvs, k, b, ex_rd e h1, h2, e _ _ h3, h4⟩
theorem isd_on {H H' : Hp} {a : Addr} (e : Ex H H') (h : IsD H a) : IsD H' a := by
  rcases h with ⟨kvs, h⟩ | ⟨kvs, h⟩
  · exact .inl ⟨kvs, ex_rd e h⟩
  · exact .inr ⟨kvs, ex_rd e h⟩
theorem ev_dget {σ : L2.St} {H : Hp} {td ty : TE} {a : Addr} {y v : V} (hd : Ev td σ H (.ref a)) (hy : Ev ty σ H y) (h : DGet H a y (some v)) : Ev (tDGet td ty) σ H v :=
  fun H1 e1 Q q => hd H1 e1 _ fun H2 e2 => hy H2 (e1.trans e2) _ fun H3 e3 => ⟨a, v, rfl, dget_on ((e1.trans e2).trans e3) h, q H3 (e2.trans e3)⟩
theorem ev_dget2 {σ : L2.St} {H : Hp} {td ty tx : TE} {a : Addr} {y z v : V} {o : Option V} (hd : Ev td σ H (.ref a)) (hy : Ev ty σ H y) (hz : Ev tx σ H z) (hi : IsD H a) (h : DGet H a y o) (hv : o.getD z = v) : Ev (tDGet2 td ty tx) σ H v :=
  fun H1 e1 Q q => hd H1 e1 _ fun H2 e2 => ⟨a, rfl, isd_on (e1.trans e2) hi, hy H2 (e1.trans e2) _ fun H3 e3 => hz H3 ((e1.trans e2).trans e3) _ fun H4 e4 => ⟨o, dget_on (((e1.trans e2).trans e3).trans e4) h, by
    rw [hv]
    exact q H4 ((e2.trans e3).trans e4)⟩⟩
/-- d[k] = v -/
theorem s_dput {σ : L2.St} {H : Hp} {D : Ends} {td ty tv : TE} {a : Addr} {k : Key} {v : V} {kvs : List (Key × V)} (hd : Ev td σ H (.ref a)) (hy : Ev ty σ H (kV k)) (hv : Ev tv σ H v) (ho : H a = some (.dK kvs)) (hl : kvs.length < sizeLine)
    (q : ∀ H1, Ex H H1 → D.nx σ (upd H1 a (.dK (putK kvs k v)))) : sDPut td ty tv D σ H := hv H (Ex.refl H) _ fun H1 e1 => hd H1 e1 _ fun H2 e2 => hy H2 (e1.trans e2) _ fun H3 e3 =>
  ⟨a, _, rfl, DPut.k (((e1.trans e2).trans e3) _ _ ho) hl, q H3 ((e1.trans e2).trans e3)⟩
theorem unlock_ex {H Hc H' : Hp} {m d : Addr} {u f : HO} (e : Ex H Hc) (hm : Hc m = some u) (hd : H d = none) (e' : Ex (rm (upd Hc m f) d) H') : Ex H (upd H' m u) := fun a o h => by
  by_cases z : a = m
  · subst z
    rw [upd_same, ← hm, e _ _ h]
  · rw [upd_ne z]
    refine e' _ _ ?_
    rw [rm_ne (ne_of_none h hd), upd_ne z]
    exact e _ _ h
def sp_Steps_init (C : Addr) : Sp := fun vs H Q _ => ∃ (x dx : Addr) (p : Int), vs = [.ref x, .int p] ∧ H x = some (.ins C dx []) ∧ ∀ H' kd, (∀ a o, a ≠ x → H a = some o → H' a = some o) → H kd = none → H' x = some (.ins C dx (sfs p kd)) → H' kd = some (.dK []) → Q .non H'
theorem ok_Steps_init (E : Env K mg) : FnOk P w K mg base CX0 1 E.i_Steps.f E.i_Steps.fd ["self", "prime"] (sp_Steps_init E.CS) := by
  refine E.i_Steps.F.ok sc_Steps_init (fun vs H Q E h => ?_) (fun cdv A outer s H vs Q E' hr h => ?_)
  · obtain ⟨x, dx, p, rfl, _⟩ := h
    rfl
  · obtain ⟨x, dx, p, rfl, hx, k⟩ := h
    refine ⟨_, PSs.nox (pss_cons (ps_fld (pv 0) (pv 1) rfl) (pss_one (ps_fld (pv 0) pe_dnewK rfl))), ?_⟩
    refine ⟨_, rfl, _, rfl, x, E.CS, dx, [], rfl, hx, E.k_Steps, E.a_kept_prime, by decide, fun kd nk => ?_⟩
    have ne : kd ≠ x := fun z => by
      rw [z, upd_same] at nk
      cases nk
    have nk0 : H kd = none := by
      rw [upd_ne ne] at nk
      exact nk
    refine ⟨_, rfl, x, E.CS, dx, putF "kept_prime" (.int p) [], rfl, ?_, E.k_Steps, E.a_kept_rows, ?_, ?_⟩
    · rw [upd_ne ne.symm, upd_same]
    · show 1 < 1000
      decide
    · refine k _ kd (fun a o ha e => ?_) nk0 ?_ ?_
      · rw [upd_ne ha, upd_ne (ne_of_none e nk0), upd_ne ha]
        exact e
      · rw [upd_same, put_prime, put_rows]
      · rw [upd_ne ne, upd_same]
/-- an entry that is new behind H -/
def EntNew (H : Hp) (p : Int) (b : Nat × List Int) (v : V) (H' : Hp) : Prop := ∃ (t r d : Addr) (mk : List (Key × V)), v = .ref t ∧ H t = none ∧ H r = none ∧ H d = none ∧ H' t = some (.tup [.ref r, .ref d]) ∧ H' r = some (.lst (b.2.map V.int)) ∧ H' d = some (.dK mk) ∧ MadeOk p mk
theorem getD_map {l : List Int} {i : Nat} (h : i < l.length) : (l.map V.int)[i]? = some (.int (l.getD i 0)) := by
  rw [List.getElem?_map, List.getElem?_eq_getElem h]
  simp [h]
theorem mod_bounds {x p : Int} (hp : 0 < p) : 0 ≤ x % p ∧ x % p < p := ⟨Int.emod_nonneg _ (by omega), Int.emod_lt_of_pos _ hp⟩
def sp_Steps_cleared (C : Addr) : Sp := fun vs H Q _ => ∃ (x dx kd t lf md : Addr) (p : Int) (n place : Nat) (b : Nat × List Int) (left : List Int) (mk : List (Key × V)), vs = [.ref x, .ref t, nV place, .ref lf, .ref md] ∧ H x = some (.ins C dx (sfs p kd)) ∧
  EntAt p b (.ref t) H ∧ H lf = some (.lst (left.map V.int)) ∧ H md = some (.dK mk) ∧ MadeOk p mk ∧ Mth.IsRow p n b.2 ∧ Mth.IsRow p n left ∧ place < n ∧ n ≤ 10 ∧ 2 ≤ p ∧ p ≤ 251 ∧ Ret H (EntNew H p (b.1, Mth.less p b.2 (b.2.getD place 0) left)) Q
theorem ok_Steps_cleared (E : Env K mg) : FnOk P w K mg base CX0 2 E.m_cleared.f E.m_cleared.fd ["self", "pair", "place", "left", "made"] (sp_Steps_cleared E.CS) := by
  refine E.m_cleared.F.ok sc_Steps_cleared (fun vs H Q E h => ?_) (fun cdv A outer s H vs Q E' hr h => ?_)
  · obtain ⟨x, dx, kd, t, lf, md, p, n, place, b, left, mk, rfl, _⟩ := h
    rfl
  · obtain ⟨x, dx, kd, t, lf, md, p, n, place, b, left, mk, rfl, hx, ⟨t', r, d, pk, et, ht, hr0, hd, pok⟩, hlf, hmd, mok, rb, rl, hpl, hn, p2, p251, k⟩ := h
    obtain rfl : t = t' := V.ref.inj et
    refine ⟨_, PSs.nox (pss_cons (ps_par (i := 5) (j := 6) rfl sc_Steps_cleared.nd rfl rfl (by decide) rfl rfl (pa_cons (pe_ix ix_tup (pv 1) pe_int (fun _ _ => rfl)) (pa_cons (pe_callTy call_dictD (by rfl) E.f_dict (by decide +kernel) (pa_cons (pe_ix ix_tup (pv 1) pe_int (fun _ _ => rfl)) pa_nil)) pa_nil)) rfl) (pss_cons (ps_set (i := 7) sc_Steps_cleared.nd rfl (by first | exact Or.inl rfl | exact Or.inr rfl) (pe_ix ix_list (pv 5) (pv 2) (fun _ _ => rfl))) (pss_cons (ps_lock (ps_for PassesOwn.never rfl (pi_keys (pv 4)) (pg_name (i := 8) sc_Steps_cleared.nd rfl (by first | exact Or.inl rfl | exact Or.inr rfl)) (pss_one (ps_dput (hu_of hr) (pv 6) (pv 8) (pe_op op_mod (pe_op op_sub (pe_dget2 (hu_of hr) (pv 6) (pv 8) pe_int ⟨rfl, rfl, rfl, rfl⟩) (pe_op op_mul (pv 7) (pe_dget (hu_of hr) (pv 4) (pv 8) (fun _ _ => rfl)))) (pe_fld (pv 0) rfl)) rfl)))) (pss_one (ps_ret (pe_tup (pa_cons (pe_call (ok_less_times E) (hr.mono (by decide)) rfl E.d_less_times.g E.d_less_times.F.kp E.d_less_times.b .nil pass0 (pa_cons (pe_fld (pv 0) rfl) (pa_cons (pv 5) (pa_cons (pv 7) (pa_cons (pv 3) pa_nil))))) (pa_cons (pv 6) pa_nil)))))))), ?_⟩
    refine ⟨_, rfl, t, _, 0, _, rfl, rfl, SqT.of ht, atI_nat (j := 0) rfl, ?_⟩
    refine ⟨_, rfl, t, _, 1, .ref d, rfl, rfl, SqT.of ht, atI_nat (j := 1) rfl, d, pk, rfl, .inl hd, fun d1 nd1 => ⟨_, _, rfl, ?_⟩⟩
    have e1 : Ex H (upd H d1 (.dK pk)) := Ex.new nd1
    refine ⟨_, rfl, _, rfl, r, _, _, _, rfl, rfl, SqL.of (e1 _ _ hr0), atI_nat (getD_map (by rw [rb.1]; exact hpl)), ?_⟩
    have nmd : md ≠ d1 := ne_of_none hmd nd1
    have nx1 : x ≠ d1 := ne_of_none hx nd1
    have nxm : x ≠ md := ne_of hx hmd (by intro z; cases z)
    refine ⟨md, .dK mk, e1 _ _ hmd, trivial, fun od => ⟨_, rfl, md, od, rfl, .inl ⟨mk, upd_same, for_it walk_keys (fun i σ H' => ∃ u, σ = [some (.ref x), some (.ref t), some (nV place), some (.ref lf), some (.ref md), some (.ref r), some (.ref d1), some (.int (b.2.getD place 0)), u] ∧
      ∃ pk', Ex (rm (upd (upd H d1 (.dK pk)) md (.frz od (.dK mk))) d1) H' ∧ H' d1 = some (.dK pk') ∧ MadeOk p pk') ⟨none, rfl, pk, rm_ex, by rw [upd_ne nmd.symm, upd_same], pok⟩ (fun i σ H' _ h => ?_) (fun i v σ H' H'' hi h y => ?_) fun σ H' h => ?_⟩⟩⟩
    · obtain ⟨u, _, pk', e2, _, _⟩ := h
      exact e2 _ _ (by rw [rm_ne nmd, upd_same])
    · obtain ⟨u, rfl, pk', e2, hd1, ok'⟩ := h
      obtain ⟨rfl, key, val, hkv, rfl⟩ := y
      have hmem : (key, val) ∈ mk := List.mem_of_getElem? hkv
      obtain ⟨j, hj, rfl⟩ := mok.key key (List.mem_map.mpr ⟨_, hmem, rfl⟩)
      obtain ⟨mv, rfl, m0, m1⟩ := mok.val _ hmem
      obtain ⟨gv, hg, g0, g1⟩ := ok'.get0 (.inl (j : Int)) (show (0 : Int) < p by omega)
      have h2 : H'' md = some (.frz od (.dK mk)) := e2 _ _ (by rw [rm_ne nmd, upd_same])
      have h3 : H'' x = some (.ins E.CS dx (sfs p kd)) := e2 _ _ (by rw [rm_ne nx1, upd_ne nxm, upd_ne nx1, hx])
      have rowb := rb.at hpl
      obtain ⟨z0, z1⟩ := mod_bounds (x := gv - b.2.getD place 0 * mv) (p := p) (by omega)
      refine s_dput (k := .inl (j : Int)) (v := .int ((gv - b.2.getD place 0 * mv) % p)) (ev_var rfl) (ev_var rfl) (ev_op (ev_op (ev_dget2 (z := .int 0) (ev_var rfl) (ev_var rfl) ev_c (.inl ⟨_, .inl hd1⟩) (DGet.k (k := .inl (j : Int)) hd1) hg) (ev_op (ev_var rfl) (ev_dget (ev_var rfl) (ev_var rfl) (.inl ⟨mk, .inl (j : Int), .inr ⟨od, h2⟩, rfl, (valV_of_mem mok.nd hmem).symm⟩)) (rv_I (.inl ⟨by omega, by omega⟩))) rv_I0) (ev_fld (ev_var rfl) h3 E.k_Steps E.a_kept_prime (sfs_prime _ _)) (rv_I (show (0 : Int) < p by omega))) hd1 ok'.small fun H1 e3 => ?_
      exact ⟨_, rfl, _, Ex.mut (e2.trans e3) rm_same, upd_same, ok'.put hj z0 z1⟩
    · obtain ⟨u, rfl, pk', e2, hd1, ok'⟩ := h
      have e3 : Ex H (upd H' md (.dK mk)) := unlock_ex e1 (e1 _ _ hmd) nd1 e2
      refine ⟨e2 _ _ (by rw [rm_ne nmd, upd_same]), ?_⟩
      have hd2 : (upd H' md (.dK mk)) d1 = some (.dK pk') := by rw [upd_ne nmd.symm]; exact hd1
      have rowb := rb.at hpl
      refine s_retP (evp_tup2 (ev_callA (ea_cons (ev_fld (ev_var rfl) (e3 _ _ hx) E.k_Steps E.a_kept_prime (sfs_prime _ _)) (ea_cons (ev_var rfl) (ea_cons (ev_var rfl) (ea_cons (ev_var rfl) ea_nil)))) fun H1 e4 Q1 r1 => ⟨p, _, r, lf, b.2, left, rfl, SqL.of (e4 _ _ (e3 _ _ hr0)), SqL.of (e4 _ _ (e3 _ _ hlf)), by rw [rb.1, rl.1], by rw [rb.1]; exact hn, by omega, by omega, by omega, r1.weak fun _ _ q => q.back e4⟩) (ev_var rfl)) fun v H1 e4 pv => k v H1 (e3.trans e4) fun H2 e5 => ?_
      obtain ⟨q, u1, rfl, nq, hq, l1, rfl, nl, hl⟩ := pv H2 e5
      exact ⟨q, l1, d1, pk', rfl, fresh_back e3 nq, fresh_back e3 (fresh_back (Ex.refl _) nl), nd1, hq, hl, e5 _ _ (e4 _ _ hd2), ok'⟩
end
end Wk
end

section
set_option Elab.async false
set_option linter.all false
set_option maxRecDepth 100000
set_option maxHeartbeats 2000000
namespace Wk
open PySem PySem.Spec PyProof.Rows L2 Evl Rk
section
variable {K : PySem.W.Frag} {base : Heap} {mg : Str → Option Value} {P : Program} {w : World}
theorem perm_nat {ys : List Int} {l : List Nat} (h : ys.Perm (l.map fun n : Nat => (n : Int))) : ∃ ns : List Nat, ns.Perm l ∧ ys = ns.map fun n : Nat => (n : Int) := by
  refine ⟨ys.map Int.toNat, ?_, ?_⟩
  · have q := h.map Int.toNat
    rw [List.map_map] at q
    have e : l.map (Int.toNat ∘ fun n : Nat => (n : Int)) = l := by
      conv => rhs; rw [← List.map_id l]
      refine List.map_congr_left fun n _ => ?_
      show ((n : Int)).toNat = n
      omega
    rw [e] at q
    exact q
  · rw [List.map_map]
    conv => lhs; rw [← List.map_id ys]
    refine List.map_congr_left fun y hy => ?_
    obtain ⟨n, _, e⟩ := List.mem_map.mp (h.mem_iff.mp hy)
    show y = ((y.toNat : Nat) : Int)
    omega
theorem RF_len {p : Int} {n : Nat} {kept : List (Nat × List Int)} (rf : Mth.RF p n kept) : kept.length ≤ n := by
  have q := Mth.nodup_len (m := List.range n) rf.nd fun x hx => by
    obtain ⟨b, hb, rfl⟩ := List.mem_map.mp hx
    exact List.mem_range.mpr (rf.lt b hb)
  rw [List.length_map, List.length_range] at q
  exact q
def FallAt (H : Hp) (p : Int) (n : Nat) (kept : List (Nat × List Int)) (r : List Int) (v : V) (H' : Hp) : Prop := ∃ (t l d : Addr) (r' : List Int) (mk : List (Key × V)), v = .ref t ∧ H d = none ∧ H' t = some (.tup [.ref l, .ref d]) ∧ H' l = some (.lst (r'.map V.int)) ∧ H' d = some (.dK mk) ∧ MadeOk p mk ∧ Mth.Fell p n kept r r' (kept.map (·.1))
def sp_Steps_fallen (C : Addr) : Sp := fun vs H Q _ => ∃ (x dx kd ra md : Addr) (p : Int) (n : Nat) (kept : List (Nat × List Int)) (kvs mk : List (Key × V)) (r : List Int), vs = [.ref x, .ref ra, .ref md] ∧ H x = some (.ins C dx (sfs p kd)) ∧ H kd = some (.dK kvs) ∧ KeptAt p kept kvs (rm H kd) ∧ Mth.RF p n kept ∧
  H ra = some (.tup (r.map V.int)) ∧ Mth.IsRow p n r ∧ H md = some (.dK mk) ∧ MadeOk p mk ∧ 2 ≤ p ∧ p ≤ 251 ∧ n ≤ 10 ∧ Ret H (FallAt H p n kept r) Q
theorem ok_Steps_fallen (E : Env K mg) : FnOk P w K mg base CX0 2 E.m_fallen.f E.m_fallen.fd ["self", "row", "made"] (sp_Steps_fallen E.CS) := by
  refine E.m_fallen.F.ok sc_Steps_fallen (fun vs H Q E h => ?_) (fun cdv A outer s H vs Q E' hr h => ?_)
  · obtain ⟨x, dx, kd, ra, md, p, n, kept, kvs, mk, r, rfl, _⟩ := h
    rfl
  · obtain ⟨x, dx, kd, ra, md, p, n, kept, kvs, mk, r, rfl, hx, hkd, hk, rf, hra, ir, hmd, mok, p2, p251, hn, k⟩ := h
    have hkH : KeptAt p kept kvs H := hk.on rm_ex
    refine ⟨_, PSs.nox (pss_cons (ps_par (i := 1) (j := 2) rfl sc_Steps_fallen.nd rfl rfl (by decide) rfl rfl (pa_cons (pe_callTy call_list_of (by rfl) E.f_list (by decide +kernel) (pa_cons (pv 1) pa_nil)) (pa_cons (pe_callTy call_dictD (by rfl) E.f_dict (by decide +kernel) (pa_cons (pv 2) pa_nil)) pa_nil)) rfl) (pss_cons (ps_for PassesOwn.never rfl (pi_list (pe_callB (call_sortedDI rfl) (by rfl) E.f_sorted (by decide +kernel) (pa_cons (pe_fld (pv 0) rfl) pa_nil))) (pg_name (i := 3) sc_Steps_fallen.nd rfl (by first | exact Or.inl rfl | exact Or.inr rfl)) (pss_one (ps_if (pt_cmpR op_ne (pe_ix ix_list (pv 1) (pv 3) (fun _ _ => rfl)) pe_int (nomark _)) (pss_cons (ps_set (i := 4) sc_Steps_fallen.nd rfl (by first | exact Or.inl rfl | exact Or.inr rfl) (pe_ix ix_list (pv 1) (pv 3) (fun _ _ => rfl))) (pss_cons (ps_asg (pe_dget (hu_of hr) (pe_fld (pv 0) rfl) (pv 3) (fun _ _ => rfl)) (pg_tup rfl (pgs_cons (pg_name (i := 5) sc_Steps_fallen.nd rfl (by first | exact Or.inl rfl | exact Or.inr rfl)) (pgs_cons (pg_name (i := 6) sc_Steps_fallen.nd rfl (by first | exact Or.inl rfl | exact Or.inr rfl)) pgs_nil)))) (pss_cons (ps_set (i := 1) sc_Steps_fallen.nd rfl (by first | exact Or.inl rfl | exact Or.inr rfl) (pe_call (ok_less_times E) (hr.mono (by decide)) rfl E.d_less_times.g E.d_less_times.F.kp E.d_less_times.b .nil pass0 (pa_cons (pe_fld (pv 0) rfl) (pa_cons (pv 1) (pa_cons (pv 4) (pa_cons (pv 5) pa_nil)))))) (pss_one (ps_lock (ps_for PassesOwn.never rfl (pi_keys (pv 6)) (pg_name (i := 7) sc_Steps_fallen.nd rfl (by first | exact Or.inl rfl | exact Or.inr rfl)) (pss_one (ps_dput (hu_of hr) (pv 2) (pv 7) (pe_op op_mod (pe_op op_sub (pe_dget2 (hu_of hr) (pv 2) (pv 7) pe_int ⟨rfl, rfl, rfl, rfl⟩) (pe_op op_mul (pv 4) (pe_dget (hu_of hr) (pv 6) (pv 7) (fun _ _ => rfl)))) (pe_fld (pv 0) rfl)) rfl)))))))) pss_nil))) (pss_one (ps_ret (pe_tup (pa_cons (pv 1) (pa_cons (pv 2) pa_nil))))))), ?_⟩
    refine ⟨_, rfl, ra, _, rfl, .inr (SqT.of hra), fun l0 nl0 => ?_⟩
    have e0 : Ex H (upd H l0 (.lst (r.map V.int))) := Ex.new nl0
    refine ⟨_, rfl, md, mk, rfl, .inl (e0 _ _ hmd), fun d nd => ⟨_, _, rfl, ?_⟩⟩
    have e1 : Ex H (upd (upd H l0 (.lst (r.map V.int))) d (.dK mk)) := e0.trans (Ex.new nd)
    have nd0 : H d = none := fresh_back e0 nd
    have nld : l0 ≠ d := ne_of_none upd_same nd
    have h1l : (upd (upd H l0 (.lst (r.map V.int))) d (.dK mk)) l0 = some (.lst (r.map V.int)) := by rw [upd_ne nld, upd_same]
    generalize hH1 : upd (upd H l0 (.lst (r.map V.int))) d (.dK mk) = H1 at e1 h1l
    have h1d : H1 d = some (.dK mk) := by rw [← hH1, upd_same]
    have hks := hkH.keys
    have rlen := RF_len rf
    refine ⟨_, rfl, x, E.CS, dx, sfs p kd, .ref kd, rfl, e1 _ _ hx, E.k_Steps, E.a_kept_rows, sfs_rows _ _, kd, kvs, kept.map fun b => ((b.1 : Nat) : Int), rfl, .inl (e1 _ _ hkd), hks, by rw [List.length_map]; omega, fun ys sl hperm _ nsl => ?_⟩
    obtain ⟨ns, hns, rfl⟩ := perm_nat (ys := ys) (l := kept.map (·.1)) (by rw [List.map_map]; exact hperm)
    have e2 : Ex H1 (upd H1 sl (.lst ((ns.map fun n : Nat => (n : Int)).map V.int))) := Ex.new nsl
    have nld2 : l0 ≠ sl := ne_of_none h1l nsl
    have ndl : d ≠ sl := ne_of_none h1d nsl
    have nsd0 : H sl = none := fresh_back e1 nsl
    have nsnd : ns.Nodup := hns.nodup_iff.mpr rf.nd
    refine ⟨sl, rfl, ⟨_, SqL.of upd_same⟩, for_list (xs := (ns.map fun n : Nat => (n : Int)).map V.int) (fun i σ H' => ∃ (l : Addr) (r' : List Int) (mk' : List (Key × V)) (u3 u4 u5 u6 u7 : Option V), σ = [some (.ref x), some (.ref l), some (.ref d), u3, u4, u5, u6, u7] ∧ Ex H H' ∧ H' sl = some (.lst ((ns.map fun n : Nat => (n : Int)).map V.int)) ∧
      H' l = some (.lst (r'.map V.int)) ∧ H' d = some (.dK mk') ∧ MadeOk p mk' ∧ Mth.Fell p n kept r r' (ns.take i)) ⟨l0, r, mk, none, none, none, none, none, rfl, e1.trans e2, upd_same, e2 _ _ h1l, e2 _ _ h1d, mok, Mth.Fell.start ir⟩ (fun i σ H' _ h => ?_) (fun i y σ H' hi h => ?_) fun σ H' h => ?_⟩
    · obtain ⟨l, r', mk', u3, u4, u5, u6, u7, rfl, e3, hsl, _⟩ := h
      exact SqL.of hsl
    · obtain ⟨l, r', mk', u3, u4, u5, u6, u7, rfl, e3, hsl, hl, hd, mok', fell⟩ := h
      rw [List.getElem?_map, List.getElem?_map] at hi
      cases hni : ns[i]? with
      | none =>
        rw [hni] at hi
        cases hi
      | some pl =>
        rw [hni] at hi
        obtain rfl : nV pl = y := Option.some.inj hi
        have hmem : pl ∈ kept.map (·.1) := hns.mem_iff.mp (List.mem_of_getElem? hni)
        obtain ⟨b, hb, rfl⟩ := List.mem_map.mp hmem
        have hlt : b.1 < n := rf.lt b hb
        have htake : ns.take (i + 1) = ns.take i ++ [b.1] := take_succ_of hni
        have hrow := fell.isrow
        have hat : atI (r'.map V.int) ((b.1 : Nat) : Int) = some (.int (r'.getD b.1 0)) := atI_nat (getD_map (by rw [hrow.1]; exact hlt))
        obtain ⟨g0, g1⟩ := hrow.at hlt
        refine ⟨_, rfl, _, rfl, l, _, _, _, rfl, rfl, SqL.of hl, hat, rfl, _, rfl, ?_⟩
        by_cases hz : r'.getD b.1 0 = 0
        · rw [decide_eq_true (show V.int (r'.getD b.1 0) = V.int 0 by rw [hz])]
          refine ⟨l, r', mk', _, u4, u5, u6, u7, rfl, e3, hsl, hl, hd, mok', ?_⟩
          rw [htake]
          exact fell.skip hz
        · rw [decide_eq_false (show ¬ V.int (r'.getD b.1 0) = V.int 0 from fun z => hz (V.int.inj z))]
          obtain ⟨ev, hev, t, rr, dp, pk, rfl, ht, hrr, hdp, pok⟩ := hkH.get rf.nd hb
          refine ⟨_, rfl, _, rfl, l, _, _, _, rfl, rfl, SqL.of hl, hat, ?_⟩
          refine ⟨_, rfl, x, E.CS, dx, sfs p kd, .ref kd, rfl, e3 _ _ hx, E.k_Steps, E.a_kept_rows, sfs_rows _ _, _, rfl, kd, _, rfl, .inl ⟨kvs, .inl ((b.1 : Nat) : Int), .inl (e3 _ _ hkd), rfl, hev.symm⟩, t, _, rfl, SqT.of (e3 _ _ ht), rfl, _, _, rfl, _, _, rfl, rfl, ?_⟩
          refine ⟨_, rfl, x, E.CS, dx, sfs p kd, .int p, rfl, e3 _ _ hx, E.k_Steps, E.a_kept_prime, sfs_prime _ _, _, rfl, _, rfl, _, rfl, p, r'.getD b.1 0, l, rr, r', b.2, rfl, SqL.of hl, SqL.of (e3 _ _ hrr), by rw [hrow.1, (rf.row b hb).1], by rw [hrow.1]; exact hn, by omega, by omega, by omega, fun lv H2 e4 pl2 => ?_⟩
          obtain ⟨l2, rfl, nl2, hl2⟩ := pl2.now
          have hdp2 : H2 dp = some (.dK pk) := e4 _ _ (e3 _ _ hdp)
          have nddp : d ≠ dp := (ne_of_none hdp nd0).symm
          have nxdp : x ≠ dp := ne_of hx hdp (by intro z; cases z)
          have nxd : x ≠ d := ne_of_none hx nd0
          have nl2dp : l2 ≠ dp := ne_of hl2 hdp2 (by intro z; cases z)
          have nl2d : l2 ≠ d := ne_of hl2 (e4 _ _ hd) (by intro z; cases z)
          have nsldp : sl ≠ dp := ne_of (e4 _ _ hsl) hdp2 (by intro z; cases z)
          have nsld : sl ≠ d := ndl.symm
          refine ⟨dp, .dK pk, hdp2, trivial, fun od => ⟨_, rfl, dp, od, rfl, .inl ⟨pk, upd_same, for_it walk_keys (fun i' σ H' => ∃ u, σ = [some (.ref x), some (.ref l2), some (.ref d), some (nV b.1), some (.int (r'.getD b.1 0)), some (.ref rr), some (.ref dp), u] ∧
            ∃ mk', Ex (rm (upd H2 dp (.frz od (.dK pk))) d) H' ∧ H' d = some (.dK mk') ∧ MadeOk p mk') ⟨u7, rfl, mk', rm_ex, by rw [upd_ne nddp]; exact e4 _ _ hd, mok'⟩ (fun i' σ H' _ h => ?_) (fun i' v σ H' H'' hi' h y => ?_) fun σ H' h => ?_⟩⟩⟩
          · obtain ⟨u, _, mk'', e5, _, _⟩ := h
            exact e5 _ _ (by rw [rm_ne nddp.symm, upd_same])
          · obtain ⟨u, rfl, mk'', e5, hd1, ok'⟩ := h
            obtain ⟨rfl, key, val, hkv, rfl⟩ := y
            have hmem2 : (key, val) ∈ pk := List.mem_of_getElem? hkv
            obtain ⟨j, hj, rfl⟩ := pok.key key (List.mem_map.mpr ⟨_, hmem2, rfl⟩)
            obtain ⟨mv, rfl, m0, m1⟩ := pok.val _ hmem2
            obtain ⟨gv, hg, gv0, gv1⟩ := ok'.get0 (.inl (j : Int)) (show (0 : Int) < p by omega)
            have h2 : H'' dp = some (.frz od (.dK pk)) := e5 _ _ (by rw [rm_ne nddp.symm, upd_same])
            have h3 : H'' x = some (.ins E.CS dx (sfs p kd)) := e5 _ _ (by rw [rm_ne nxd, upd_ne nxdp]; exact e4 _ _ (e3 _ _ hx))
            obtain ⟨z0, z1⟩ := mod_bounds (x := gv - r'.getD b.1 0 * mv) (p := p) (by omega)
            refine s_dput (k := .inl (j : Int)) (v := .int ((gv - r'.getD b.1 0 * mv) % p)) (ev_var rfl) (ev_var rfl) (ev_op (ev_op (ev_dget2 (z := .int 0) (ev_var rfl) (ev_var rfl) ev_c (.inl ⟨_, .inl hd1⟩) (DGet.k (k := .inl (j : Int)) hd1) hg) (ev_op (ev_var rfl) (ev_dget (ev_var rfl) (ev_var rfl) (.inl ⟨pk, .inl (j : Int), .inr ⟨od, h2⟩, rfl, (valV_of_mem pok.nd hmem2).symm⟩)) (rv_I (.inl ⟨by omega, by omega⟩))) rv_I0) (ev_fld (ev_var rfl) h3 E.k_Steps E.a_kept_prime (sfs_prime _ _)) (rv_I (show (0 : Int) < p by omega))) hd1 ok'.small fun H3 e6 => ?_
            exact ⟨_, rfl, _, Ex.mut (e5.trans e6) rm_same, upd_same, ok'.put hj z0 z1⟩
          · obtain ⟨u, rfl, mk'', e5, hd1, ok'⟩ := h
            refine ⟨e5 _ _ (by rw [rm_ne nddp.symm, upd_same]), ?_⟩
            refine ⟨l2, Mth.less p r' (r'.getD b.1 0) b.2, mk'', _, _, _, _, _, rfl, unlock_ex (e3.trans e4) hdp2 nd0 e5, ?_, ?_, ?_, ok', ?_⟩
            · rw [upd_ne nsldp]
              exact e5 _ _ (by rw [rm_ne nsld, upd_ne nsldp]; exact e4 _ _ hsl)
            · rw [upd_ne nl2dp]
              exact e5 _ _ (by rw [rm_ne nl2d, upd_ne nl2dp]; exact hl2)
            · rw [upd_ne nddp]
              exact hd1
            · rw [htake]
              refine fell.step p2 rf hb fun z hz2 => ?_
              have hz3 : z ∈ ns := List.mem_of_mem_take hz2
              refine ⟨fun e => ?_, ?_⟩
              · have hlt2 : i < ns.length := (List.getElem?_eq_some_iff.mp hni).1
                have hsplit : ns = ns.take i ++ ns.drop i := (List.take_append_drop i ns).symm
                have hdr : ns.drop i = b.1 :: ns.drop (i + 1) := by
                  obtain ⟨q1, q2⟩ := List.getElem?_eq_some_iff.mp hni
                  rw [← q2]
                  exact List.drop_eq_getElem_cons q1
                rw [hsplit, hdr, List.nodup_append] at nsnd
                exact nsnd.2.2 z hz2 b.1 List.mem_cons_self e
              · obtain ⟨c, hc, ec⟩ := List.mem_map.mp (hns.mem_iff.mp hz3)
                exact ⟨c, hc, ec⟩
    · obtain ⟨l, r', mk', u3, u4, u5, u6, u7, rfl, e3, hsl, hl, hd, mok', fell⟩ := h
      rw [List.length_map, List.length_map, List.take_length] at fell
      refine ⟨_, rfl, _, rfl, by show 2 ≤ sizeLine; decide, fun t nt => k _ _ (e3.trans (Ex.new nt)) fun H2 e4 => ?_⟩
      have e5 := (Ex.new (o := .tup [.ref l, .ref d]) nt).trans e4
      exact ⟨t, l, d, r', mk', rfl, nd0, e4 _ _ upd_same, e5 _ _ hl, e5 _ _ hd, mok', ⟨fell.made, fell.isrow, fun z hz => fell.zero z (hns.mem_iff.mpr hz)⟩⟩
end
end Wk
end

section
set_option Elab.async false
set_option linter.all false
set_option maxRecDepth 100000
set_option maxHeartbeats 2000000
namespace Wk
open PySem PySem.Spec PyProof.Rows L2 Evl Rk
section
variable {K : PySem.W.Frag} {base : Heap} {mg : Str → Option Value} {P : Program} {w : World}
def SelfInv (C x dx : Addr) (p : Int) (n : Nat) (R : List (List Int)) (H : Hp) : Prop := ∃ (kd : Addr) (kvs : List (Key × V)) (kept : List (Nat × List Int)), H x = some (.ins C dx (sfs p kd)) ∧ H kd = some (.dK kvs) ∧ KeptAt p kept kvs (rm H kd) ∧ Mth.RF p n kept ∧ Mth.Same p n R (kept.map (·.2))
theorem SelfInv.on {C x dx : Addr} {p : Int} {n : Nat} {R : List (List Int)} {H H' : Hp} (e : Ex H H') (h : SelfInv C x dx p n R H) : SelfInv C x dx p n R H' := by
  obtain ⟨kd, kvs, kept, h1, h2, h3, h4, h5⟩ := h
  exact ⟨kd, kvs, kept, e _ _ h1, e _ _ h2, h3.on (rm_mono e), h4, h5⟩
def sp_Steps_take (C : Addr) : Sp := fun vs H Q _ => ∃ (x dx ra : Addr) (p : Int) (n name : Nat) (R : List (List Int)) (r : List Int), vs = [.ref x, nV name, .ref ra] ∧ SelfInv C x dx p n R H ∧ H ra = some (.tup (r.map V.int)) ∧ Mth.IsRow p n r ∧ name < 60 ∧ Mth.Inv p ∧ 2 ≤ p ∧ p ≤ 251 ∧ n ≤ 10 ∧
  ∀ v H', (∀ a o, a ≠ x → H a = some o → H' a = some o) → SelfInv C x dx p n (R ++ [r]) H' → Q v H'
theorem getD_zero {l : List Int} (h : ∀ y, y ∈ l → y = 0) (i : Nat) : l.getD i 0 = 0 := by
  by_cases hi : i < l.length
  · have e : l.getD i 0 = l[i] := by simp [hi]
    rw [e]
    exact h _ (List.getElem_mem hi)
  · simp [List.getD, List.getElem?_eq_none (Nat.le_of_not_lt hi)]
theorem valV_no {kvs : List (Key × V)} {k : Key} (h : k ∉ kvs.map (·.1)) : valV kvs k = none := by
  cases e : valV kvs k with
  | none => rfl
  | some v => exact absurd (List.mem_map.mpr ⟨_, valV_some_mem e, rfl⟩) h
theorem ok_Steps_take (E : Env K mg) : FnOk P w K mg base CX0 3 E.m_take.f E.m_take.fd ["self", "name", "row"] (sp_Steps_take E.CS) := by
  refine E.m_take.F.ok sc_Steps_take (fun vs H Q E h => ?_) (fun cdv A outer s H vs Q E' hr h => ?_)
  · obtain ⟨x, dx, ra, p, n, name, R, r, rfl, _⟩ := h
    rfl
  · obtain ⟨x, dx, ra, p, n, name, R, r, rfl, ⟨kd, kvs, kept, hx, hkd, hk, rf, sm⟩, hra, ir, hname, hinv, p2, p251, hn, k⟩ := h
    refine ⟨_, PSs.nox (pss_cons (ps_asg (pe_meth (pv 0) E.k_Steps E.M_fallen (ok_Steps_fallen E) (hr.mono (by decide)) E.m_fallen.b .nil pass0 (pa_cons (pv 2) (pa_cons (pe_disp (pps_cons (pv 1) pe_int pps_nil) rfl rfl (fun z => by cases z) (by decide)) pa_nil))) (pg_tup rfl (pgs_cons (pg_name (i := 3) sc_Steps_take.nd rfl (by first | exact Or.inl rfl | exact Or.inr rfl)) (pgs_cons (pg_name (i := 4) sc_Steps_take.nd rfl (by first | exact Or.inl rfl | exact Or.inr rfl)) pgs_nil)))) (pss_cons (ps_set (i := 5) sc_Steps_take.nd rfl (by first | exact Or.inl rfl | exact Or.inr rfl) (pe_call (ok_first_place E) (hr.mono (by decide)) rfl E.d_first_place.g E.d_first_place.F.kp E.d_first_place.b .nil pass0 (pa_cons (pv 3) pa_nil))) (pss_cons (ps_if (pt_cmpR op_isN1 (pv 5) pe_non (nomark _)) (pss_one (ps_ret pe_bl)) pss_nil) (pss_cons (ps_set (i := 6) sc_Steps_take.nd rfl (by first | exact Or.inl rfl | exact Or.inr rfl) (pe_call (ok_inverse E) (hr.mono (by decide)) rfl E.d_inverse.g E.d_inverse.F.kp E.d_inverse.b .nil pass0 (pa_cons (pe_fld (pv 0) rfl) (pa_cons (pe_ix ix_list (pv 3) (pv 5) (fun _ _ => rfl)) pa_nil)))) (pss_cons (ps_setLc (i := 3) (own := [("value", 7)]) (g := gName 7) rfl sc_Steps_take.nd rfl rfl (sw_true rfl rfl rfl (by decide +kernel)) (pi_list (pv 3)) (blkOk_by (N := n_Steps_take) (sc := defScope s_Steps_take) (by decide +kernel)) (fun _ _ _ _ _ => (pg_name (i := 7) sc_Steps_take.nd rfl (by first | exact Or.inl rfl | exact Or.inr rfl))) (fun _ _ _ _ _ => pts_nil) (fun _ _ _ _ _ => (pe_op op_mod (pe_op op_mul (pv 7) (pv 6)) (kx_fld (K := K) (by rfl) (pv 0) rfl)))) (pss_cons (ps_set (i := 4) sc_Steps_take.nd rfl (by first | exact Or.inl rfl | exact Or.inr rfl) (pe_lock (pe_dc (own := [("one", 8)]) (g := gName 8) rfl sc_Steps_take.nd (pi_keys (pv 4)) (blkOk_by (N := n_Steps_take) (sc := defScope s_Steps_take) (by decide +kernel)) (fun _ _ _ _ _ => (pg_name (i := 8) sc_Steps_take.nd rfl (by first | exact Or.inl rfl | exact Or.inr rfl))) (fun _ _ _ _ _ => pts_nil) (fun _ _ _ _ _ => (pv 8)) (fun _ _ _ _ _ => (pe_op op_mod (pe_op op_mul (pe_dget (hu_of hr) (pv 4) (pv 8) (fun _ _ => rfl)) (pv 6)) (kx_fld (K := K) (by rfl) (pv 0) rfl)))))) (pss_cons (ps_set (i := 9) sc_Steps_take.nd rfl (by first | exact Or.inl rfl | exact Or.inr rfl) (pe_disp (pps_cons (pv 5) (pe_tup (pa_cons (pv 3) (pa_cons (pv 4) pa_nil))) pps_nil) rfl rfl (fun z => by cases z) (by decide))) (pss_cons (ps_lock (ps_for PassesOwn.never rfl (pi_keys (pe_fld (pv 0) rfl)) (pg_name (i := 10) sc_Steps_take.nd rfl (by first | exact Or.inl rfl | exact Or.inr rfl)) (pss_one (ps_dput (hu_of hr) (pv 9) (pv 10) (pe_meth (pv 0) E.k_Steps E.M_cleared (ok_Steps_cleared E) (hr.mono (by decide)) E.m_cleared.b .nil pass0 (pa_cons (pe_dget (hu_of hr) (pe_fld (pv 0) rfl) (pv 10) (fun _ _ => rfl)) (pa_cons (pv 5) (pa_cons (pv 3) (pa_cons (pv 4) pa_nil))))) rfl)))) (pss_cons (ps_fld (pv 0) (pv 9) rfl) (pss_one (ps_ret pe_bl))))))))))), ?_⟩
    refine ⟨_, rfl, x, dx, _, rfl, hx, sfs_no _ _ (by decide) (by decide), _, rfl, fun m0 nm0 => ⟨_, rfl, upd_same, [(.inl (name : Int), .int 1)], rfl, by show 1 ≤ 15; decide, ?_⟩⟩
    rw [upd_upd]
    have e1 : Ex H (upd H m0 (.dK (mergeK [] [((Sum.inl (name : Int) : Key), V.int 1)]))) := Ex.new nm0
    have mok0 : MadeOk p [((Sum.inl (name : Int) : Key), V.int 1)] := MadeOk.put (kvs := []) MadeOk.nil hname (by omega) (by omega)
    refine ⟨x, dx, kd, ra, m0, p, n, kept, kvs, _, r, rfl, e1 _ _ hx, e1 _ _ hkd, hk.on (rm_mono e1), rf, e1 _ _ hra, ir, upd_same, mok0, p2, p251, hn, fun v H2 e2 pv => ?_⟩
    obtain ⟨t, lf, md, left, mk, rfl, nmd, ht, hlf, hmd, mok, fell⟩ := pv.now
    have E2 : Ex H H2 := e1.trans e2
    have hrow := fell.isrow
    refine ⟨t, _, rfl, SqT.of ht, rfl, _, _, rfl, _, _, rfl, rfl, ?_⟩
    refine ⟨_, rfl, lf, left, rfl, SqL.of hlf, by rw [hrow.1]; exact hn, fun pv H3 e3 hp => ?_⟩
    have E3 : Ex H H3 := E2.trans e3
    rcases hp.now with ⟨rfl, hz⟩ | ⟨place, rfl, hpl, hnz⟩
    · refine ⟨_, rfl, rfl, _, rfl, ?_⟩
      rw [decide_eq_true (rfl : V.non = V.non)]
      refine k _ H3 (fun a o _ h => E3 _ _ h) ?_
      exact ⟨kd, kvs, kept, E3 _ _ hx, E3 _ _ hkd, hk.on (rm_mono E3), rf, Mth.take_same sm fell fun i _ => getD_zero hz i⟩
    · have hpn : place < n := by rw [← hrow.1]; exact hpl
      obtain ⟨g0, g1⟩ := hrow.at hpn
      refine ⟨_, rfl, rfl, _, rfl, ?_⟩
      rw [decide_eq_false (show ¬ nV place = V.non from fun z => nomatch z)]
      refine ⟨_, rfl, x, E.CS, dx, sfs p kd, .int p, rfl, E3 _ _ hx, E.k_Steps, E.a_kept_prime, sfs_prime _ _, _, rfl, _, rfl, lf, _, _, _, rfl, rfl, SqL.of (e3 _ _ hlf), atI_nat (getD_map hpl), p, _, rfl, p2, p251, hinv, by omega, g1, fun dv H4 e4 hd => ?_⟩
      obtain ⟨dd, rfl, d1, d2, d3⟩ := hd.now
      have E4 : Ex H H4 := E3.trans e4
      refine q_asgP (lc_mapW (as := left) (rep := V.int) (ei_list (ev_var rfl) (SqL.of (e4 _ _ (e3 _ _ hlf)))) V.int (fun y => y * dd % p) (by rw [hrow.1]; omega) (fun _ => by rfl) fun y H5 e5 hy => ?_) fun v5 H5 e5 pv5 => ?_
      · exact ev_op (ev_op (ev_var rfl) (ev_var rfl) (rv_I (.inr ⟨by omega, by omega⟩))) (ev_fld (ev_var rfl) (e5 _ _ (E4 _ _ hx)) E.k_Steps E.a_kept_prime (sfs_prime _ _)) (rv_I (show (0 : Int) < p by omega))
      · obtain ⟨lf2, rfl, nlf2, hlf2⟩ := pv5.now
        have E5 : Ex H H5 := E4.trans e5
        have nlf20 : H lf2 = none := fresh_back E4 nlf2
        have hmd5 : H5 md = some (.dK mk) := e5 _ _ (e4 _ _ (e3 _ _ hmd))
        have nmd0 : H md = none := fresh_back e1 nmd
        have nxmd : x ≠ md := ne_of_none hx nmd0
        refine ⟨md, .dK mk, hmd5, trivial, fun od => ⟨_, rfl, md, od, rfl, .inl ⟨mk, upd_same, fun D hD => ?_⟩⟩⟩
        have nDmd : D ≠ md := fun z => by
          rw [z, upd_same] at hD
          cases hD
        have nD5 : H5 D = none := by
          rw [upd_ne nDmd] at hD
          exact hD
        have nD0 : H D = none := fresh_back E5 nD5
        refine dc_it walk_keys (fun i H' => ∃ mk', Ex (rm (upd H5 md (.frz od (.dK mk))) D) H' ∧ H' D = some (.dK mk') ∧ MadeOk p mk') ⟨[], Ex.mut rm_ex rm_same, upd_same, MadeOk.nil⟩ (fun i H' _ h => ?_) (fun i y H' H'' hi h hy => ?_) fun H' h => ?_
        · obtain ⟨mk', e6, _, _⟩ := h
          exact e6 _ _ (by rw [rm_ne nDmd.symm, upd_same])
        · obtain ⟨mk', e6, hD6, mok6⟩ := h
          obtain ⟨rfl, key, val, hkv, rfl⟩ := hy
          have hmem : (key, val) ∈ mk := List.mem_of_getElem? hkv
          obtain ⟨j, hj, rfl⟩ := mok.key key (List.mem_map.mpr ⟨_, hmem, rfl⟩)
          obtain ⟨mv, rfl, m0', m1'⟩ := mok.val _ hmem
          have h2 : H'' md = some (.frz od (.dK mk)) := e6 _ _ (by rw [rm_ne nDmd.symm, upd_same])
          have h3 : H'' x = some (.ins E.CS dx (sfs p kd)) := e6 _ _ (by rw [rm_ne (ne_of_none hx nD0), upd_ne nxmd]; exact E5 _ _ hx)
          obtain ⟨z0, z1⟩ := mod_bounds (x := mv * dd) (p := p) (by omega)
          refine ⟨by rfl, ⟨_, rfl, ?_⟩⟩
          refine (ev_op (ev_op (ev_dget (v := .int mv) (ev_var rfl) (ev_var rfl) (.inl ⟨mk, .inl (j : Int), .inr ⟨od, h2⟩, rfl, (valV_of_mem mok.nd hmem).symm⟩) : Ev _ _ H'' _) (ev_var rfl) (rv_I (.inr ⟨by omega, by omega⟩))) (ev_fld (ev_var rfl) h3 E.k_Steps E.a_kept_prime (sfs_prime _ _)) (rv_mod (show (0 : Int) < p by omega)) : Ev _ _ H'' _) H'' (Ex.refl _) _ fun H7 e7 => ⟨mk', .inl (j : Int), rfl, e7 _ _ hD6, mok6.small, ?_⟩
          exact ⟨_, Ex.mut (e6.trans e7) rm_same, upd_same, mok6.put hj z0 z1⟩
        · obtain ⟨mk', e6, hD6, mok6⟩ := h
          refine ⟨e6 _ _ (by rw [rm_ne nDmd.symm, upd_same]), ?_⟩
          have eD : Ex H5 (upd H' md (.dK mk)) := unlock_ex (Ex.refl _) hmd5 nD5 e6
          have hD8 : (upd H' md (.dK mk)) D = some (.dK mk') := by rw [upd_ne nDmd]; exact hD6
          generalize upd H' md (.dK mk) = H8 at eD hD8 ⊢
          have E8 : Ex H H8 := E5.trans eD
          have hlf8 : H8 lf2 = some (.lst ((left.map fun y => y * dd % p).map V.int)) := eD _ _ hlf2
          -- rows = {place: (left, made)}
          intro rd nrd
          have eR0 : Ex H8 (upd H8 rd (.dK [])) := Ex.new nrd
          refine ⟨_, rfl, _, rfl, _, rfl, by show 2 ≤ sizeLine; decide, fun t0 nt0 => ?_⟩
          have nt8 : H8 t0 = none := fresh_back eR0 nt0
          have nrt : rd ≠ t0 := fun z => by
            rw [← z, upd_same] at nt0
            cases nt0
          refine ⟨by rw [upd_ne nrt, upd_same], [(.inl (place : Int), .ref t0)], rfl, by show 1 ≤ 15; decide, ?_⟩
          have e9 : Ex H8 (upd (upd (upd H8 rd (.dK [])) t0 (.tup [.ref lf2, .ref D])) rd (.dK (mergeK [] [((Sum.inl (place : Int) : Key), V.ref t0)]))) := Ex.mut (Ex.mut (Ex.new nrd) nt8) nrd
          have hrd9 : (upd (upd (upd H8 rd (.dK [])) t0 (.tup [.ref lf2, .ref D])) rd (.dK (mergeK [] [((Sum.inl (place : Int) : Key), V.ref t0)]))) rd = some (.dK [((Sum.inl (place : Int) : Key), V.ref t0)]) := upd_same
          have ht9 : (upd (upd (upd H8 rd (.dK [])) t0 (.tup [.ref lf2, .ref D])) rd (.dK (mergeK [] [((Sum.inl (place : Int) : Key), V.ref t0)]))) t0 = some (.tup [.ref lf2, .ref D]) := by rw [upd_ne nrt.symm, upd_same]
          generalize upd (upd (upd H8 rd (.dK [])) t0 (.tup [.ref lf2, .ref D])) rd (.dK (mergeK [] [((Sum.inl (place : Int) : Key), V.ref t0)])) = H9 at e9 hrd9 ht9 ⊢
          have E9 : Ex H H9 := E8.trans e9
          have nrd0 : H rd = none := fresh_back E8 nrd
          have hlf9 := e9 _ _ hlf8
          have hD9 := e9 _ _ hD8
          have nkdrd : kd ≠ rd := ne_of_none hkd nrd0
          have nxrd : x ≠ rd := ne_of_none hx nrd0
          have nxkd : x ≠ kd := ne_of hx hkd (by intro z; cases z)
          have nDrd : D ≠ rd := ne_of_none hD8 nrd
          have nDkd : D ≠ kd := (ne_of_none hkd nD0).symm
          have nlfrd : lf2 ≠ rd := ne_of_none hlf8 nrd
          have nlfkd : lf2 ≠ kd := (ne_of_none hkd nlf20).symm
          have ntkd : t0 ≠ kd := ne_of ht9 (E9 _ _ hkd) (by intro z; cases z)
          have nxlf : x ≠ lf2 := ne_of_none hx nlf20
          have nxD : x ≠ D := ne_of_none hx nD0
          have nxt : x ≠ t0 := ne_of (E9 _ _ hx) ht9 (by intro z; cases z)
          -- the loop
          generalize hleft2 : Mth.times p left dd = left2
          have hleft3 : (left.map fun y => y * dd % p) = left2 := hleft2
          rw [hleft3] at hlf9
          have irow2 : Mth.IsRow p n left2 := by
            rw [← hleft2]
            exact Mth.times_row (by omega) hrow.1
          refine ⟨kd, .dK kvs, E9 _ _ hkd, trivial, fun od2 => ⟨_, rfl, x, E.CS, dx, sfs p kd, .ref kd, rfl, by rw [upd_ne nxkd]; exact E9 _ _ hx, E.k_Steps, E.a_kept_rows, sfs_rows _ _, kd, od2, rfl, .inl ⟨kvs, upd_same, for_it walk_keys (fun i σ H' => ∃ u10, σ = [some (.ref x), some (nV name), some (.ref ra), some (.ref lf2), some (.ref D), some (nV place), some (.int dd), none, none, some (.ref rd), u10] ∧
            ∃ rk, Ex (rm (upd H9 kd (.frz od2 (.dK kvs))) rd) H' ∧ H' rd = some (.dK rk) ∧ KeptAt p ((place, left2) :: (kept.take i).map fun b => (b.1, Mth.less p b.2 (b.2.getD place 0) left2)) rk (rm (rm (rm H' rd) kd) x)) ⟨none, rfl, _, rm_ex, by rw [upd_ne nkdrd.symm]; exact hrd9, ?_⟩ (fun i σ H' _ h => ?_) (fun i y σ H' H'' hi h hy => ?_) fun σ H' h => ?_⟩⟩⟩
          · refine .cons ⟨rfl, t0, lf2, D, mk', rfl, ?_, ?_, ?_, mok6⟩ .nil
            · rw [rm_ne nxt.symm, rm_ne ntkd, rm_ne nrt.symm, upd_ne ntkd]
              exact ht9
            · rw [rm_ne nxlf.symm, rm_ne nlfkd, rm_ne nlfrd, upd_ne nlfkd]
              exact hlf9
            · rw [rm_ne nxD.symm, rm_ne nDkd, rm_ne nDrd, upd_ne nDkd]
              exact hD9
          · obtain ⟨u, _, rk, e10, _, _⟩ := h
            exact e10 _ _ (by rw [rm_ne nkdrd, upd_same])
          · obtain ⟨u, rfl, rk, e10, hrd, hkk⟩ := h
            obtain ⟨rfl, key, val, hkv, rfl⟩ := hy
            obtain ⟨b, hbk, rfl, hent⟩ := pget2 hk hkv
            have hb : b ∈ kept := List.mem_of_getElem? hbk
            have hfz : H'' kd = some (.frz od2 (.dK kvs)) := e10 _ _ (by rw [rm_ne nkdrd, upd_same])
            have hx10 : H'' x = some (.ins E.CS dx (sfs p kd)) := e10 _ _ (by rw [rm_ne nxrd, upd_ne nxkd]; exact E9 _ _ hx)
            have eb : Ex (rm H kd) H'' := fun a o ha => e10 _ _ (by
              have h1 : a ≠ kd := fun z => by
                rw [z, rm_same] at ha
                cases ha
              rw [rm_ne h1] at ha
              rw [rm_ne (ne_of_none ha nrd0), upd_ne h1]
              exact E9 _ _ ha)
            have hlf10 : H'' lf2 = some (.lst (left2.map V.int)) := e10 _ _ (by rw [rm_ne nlfrd, upd_ne nlfkd]; exact hlf9)
            have hD10 : H'' D = some (.dK mk') := e10 _ _ (by rw [rm_ne nDrd, upd_ne nDkd]; exact hD9)
            have hent2 := hent.on eb
            have hev : valV kvs (.inl (b.1 : Int)) = some val := by
              refine valV_of_mem ?_ (List.mem_of_getElem? hkv)
              have q := (hk.on rm_ex).get rf.nd hb
              rw [hk.keys, List.map_map]
              have e : (kept.map ((Sum.inl : Int → Key) ∘ fun b => ((b.1 : Nat) : Int))) = (kept.map (·.1)).map fun n : Nat => (Sum.inl (n : Int) : Key) := by
                rw [List.map_map]
                rfl
              rw [e]
              refine nodup_inj (fun a b hab => ?_) rf.nd
              have q : (a : Int) = (b : Int) := Sum.inl.inj hab
              omega
            obtain ⟨et, er, ed, epk, rfl, q1, q2, q3, q4⟩ := hent2
            refine ⟨_, rfl, x, dx, _, rfl, hx10, sfs_no _ _ (by decide) (by decide), _, rfl, x, E.CS, dx, sfs p kd, .ref kd, rfl, hx10, E.k_Steps, E.a_kept_rows, sfs_rows _ _, _, rfl, kd, _, rfl, .inl ⟨kvs, .inl (b.1 : Int), .inr ⟨od2, hfz⟩, rfl, hev.symm⟩, _, rfl, _, rfl, _, rfl, x, dx, kd, et, lf2, D, p, n, place, b, left2, mk', rfl, hx10, ⟨et, er, ed, epk, rfl, q1, q2, q3, q4⟩, hlf10, hD10, mok6, rf.row b hb, irow2, hpn, hn, p2, p251, fun nv H11 e11 hnv => ?_⟩
            obtain ⟨t5, r5, d5, mk5, rfl, nt5, nr5, nd5, ht5, hr5, hd5, mok5⟩ := hnv.now
            have hrd11 : H11 rd = some (.dK rk) := e11 _ _ hrd
            have ktk : kept.take (i + 1) = kept.take i ++ [b] := take_succ_of hbk
            have hrkk : valV rk (.inl (b.1 : Int)) = none := by
              refine valV_no fun hm => ?_
              rw [hkk.keys, List.map_map] at hm
              obtain ⟨c, hc, ec⟩ := List.mem_map.mp hm
              have ec2 : (c.1 : Int) = (b.1 : Int) := Sum.inl.inj ec
              have ec3 : c.1 = b.1 := by omega
              rcases List.mem_cons.mp hc with hc | hc
              · rw [hc] at ec3
                exact hnz (by rw [show place = b.1 from ec3]; exact fell.zero b.1 (List.mem_map.mpr ⟨b, hb, rfl⟩))
              · obtain ⟨c2, hc2, rfl⟩ := List.mem_map.mp hc
                have nd := rf.nd
                have hsp : kept = kept.take i ++ kept.drop i := (List.take_append_drop i kept).symm
                have hdr : kept.drop i = b :: kept.drop (i + 1) := by
                  obtain ⟨z1, z2⟩ := List.getElem?_eq_some_iff.mp hbk
                  rw [← z2]
                  exact List.drop_eq_getElem_cons z1
                rw [hsp, hdr, List.map_append, List.nodup_append] at nd
                exact nd.2.2 c2.1 (List.mem_map.mpr ⟨c2, hc2, rfl⟩) b.1 (List.mem_map.mpr ⟨b, List.mem_cons_self, rfl⟩) ec3
            have hsz : rk.length < sizeLine := by
              have q := hkk.length
              rw [List.length_cons, List.length_map, List.length_take] at q
              have := RF_len rf
              refine Nat.lt_of_le_of_lt (m := 20) (by omega) (by decide)
            refine ⟨_, rfl, _, rfl, rd, _, rfl, DPut.k (k := .inl (b.1 : Int)) hrd11 hsz, ?_⟩
            rw [putK_new _ hrkk]
            refine ⟨_, rfl, _, Ex.mut (e10.trans e11) rm_same, upd_same, ?_⟩
            rw [ktk, List.map_append, rm_upd]
            refine paired_app (m := rk) (hkk.on (rm_mono (rm_mono (rm_mono e11)))) (.cons ⟨rfl, t5, r5, d5, mk5, rfl, ?_, ?_, ?_, mok5⟩ .nil)
            · rw [rm_ne (ne_of_none hx10 nt5).symm, rm_ne (ne_of_none hfz nt5).symm, rm_ne (ne_of_none hrd nt5).symm]
              exact ht5
            · rw [rm_ne (ne_of_none hx10 nr5).symm, rm_ne (ne_of_none hfz nr5).symm, rm_ne (ne_of_none hrd nr5).symm]
              exact hr5
            · rw [rm_ne (ne_of_none hx10 nd5).symm, rm_ne (ne_of_none hfz nd5).symm, rm_ne (ne_of_none hrd nd5).symm]
              exact hd5
          · obtain ⟨u, rfl, rk, e10, hrd, hkk⟩ := h
            have hkl : kvs.length = kept.length := hk.length.symm
            rw [hkl, List.take_length] at hkk
            refine ⟨e10 _ _ (by rw [rm_ne nkdrd, upd_same]), ?_⟩
            have E12 : Ex H (upd H' kd (.dK kvs)) := unlock_ex E9 (E9 _ _ hkd) nrd0 e10
            refine ⟨_, rfl, _, rfl, x, E.CS, dx, sfs p kd, rfl, E12 _ _ hx, E.k_Steps, E.a_kept_rows, by show 2 < 1000; decide, ?_⟩
            rw [put_rows2]
            refine k _ _ (fun a o ha e => by rw [upd_ne ha]; exact E12 _ _ e) ?_
            obtain ⟨rf2, sm2⟩ := Mth.take_new p2 rf sm ir fell hpn hnz d3
            rw [hleft2] at rf2 sm2
            refine ⟨rd, rk, Mth.takenRows p kept place left2, upd_same, ?_, ?_, rf2, sm2⟩
            · rw [upd_ne nxrd.symm, upd_ne nkdrd.symm]
              exact hrd
            · refine KeptAt.on (fun a o ha => ?_) hkk
              have h1 : a ≠ x := fun z => by
                rw [z, rm_same] at ha
                cases ha
              rw [rm_ne h1] at ha
              have h2 : a ≠ kd := fun z => by
                rw [z, rm_same] at ha
                cases ha
              rw [rm_ne h2] at ha
              have h3 : a ≠ rd := fun z => by
                rw [z, rm_same] at ha
                cases ha
              rw [rm_ne h3] at ha
              rw [rm_ne h3, upd_ne h1, upd_ne h2]
              exact ha
end
end Wk
end

section
set_option Elab.async false
set_option linter.all false
set_option maxRecDepth 100000
set_option maxHeartbeats 2000000
namespace EnT
open PySem PySem.Spec PyProof.Rows L2
open PySem.Sem (wp)
theorem meets_new {v : Value} {o : Obj} {H : Heap → Prop} (B : Begins v o H) :
    Meets (Builtin.«enumerate.__new__» ⟨[.type "enumerate", v], []⟩) (fun _ R s => H s.heap ∧
      R (.ok (.ret (.ref (s.heap.push o).objs.size))) { s with heap := (s.heap.push o).push { cls := .type "enumerate", data := .fields #[.none, .bool false, .ref s.heap.objs.size, rawInt 0, .none, .none] } }) :=
  .of_wp fun prog w A R s h => by
    obtain ⟨hp0, gs, dr, tok, oz⟩ := s; obtain ⟨hv, h⟩ := h
    have subE := sub_enumerate
    have qI : ∀ {A' : Around} {E : Value → Shared → Prop} {Q : Value → Shared → Prop}, Q (.ref hp0.objs.size) ⟨hp0.push o, gs, dr, tok, oz⟩ → wpAny (model prog w) A' (pyIter v) Q E ⟨hp0, gs, dr, tok, oz⟩ :=
      fun qq => B.iter prog w _ _ ⟨hp0, gs, dr, tok, oz⟩ _ hv qq
    wp_walk using qI
    refine wpAny_stack_any fun stt => wpAny_pure ?_
    split
    · rename_i c _ _ _ _ _
      cases (c == Value.type "enumerate")
      · wp_walk using qI
        exact ⟨_, rfl, h⟩
      · wp_walk using qI
        exact ⟨_, rfl, h⟩
    · wp_walk using qI
      exact ⟨_, rfl, h⟩
theorem call_new {prog : Program} {w : World} {A : Around} {E : Value → Shared → Prop} {s : Shared} {v : Value} {o : Obj} {H : Heap → Prop} {Q : Value → Shared → Prop} (B : Begins v o H) (hv : H s.heap)
    (h : ∀ h', IsEnum h' (s.heap.objs.size + 1) s.heap.objs.size 0 .none → h'.get? s.heap.objs.size = some o → h'.objs.size = s.heap.objs.size + 2 →
      (∀ b o, s.heap.get? b = some o → h'.get? b = some o) → Q (.ref (s.heap.objs.size + 1)) { s with heap := h' }) :
    wpAny (model prog w) A (call (.type "enumerate") [v]) Q E s := by
  refine callType_new F.called_enumerate (by decide) (F.typeCall_enumerate_1 _) (F.newCall_enumerate_1 _) (fun obj => F.args_object_init_2 obj _) F.entry_enumerate_new
    (meets_new B) ⟨hv, ?_⟩
  have hsize : (s.heap.push o).objs.size = s.heap.objs.size + 1 := Heap.size_push ..
  show _ ∧ _
  rw [hsize]
  have hEn : IsEnum ((s.heap.push o).push { cls := .type "enumerate", data := .fields #[.none, .bool false, .ref s.heap.objs.size, rawInt 0, .none, .none] }) (s.heap.objs.size + 1) s.heap.objs.size 0 .none := by
    have := Heap.get?_push_size (s.heap.push o) (o := { cls := .type "enumerate", data := .fields #[.none, .bool false, .ref s.heap.objs.size, rawInt 0, .none, .none] }) rfl
    rw [hsize] at this; exact this
  refine ⟨⟨_, hEn, rfl⟩, h _ hEn (Heap.get?_push_of_some _ (Heap.get?_push_size _ B.free)) (by rw [Heap.size_push, hsize]) fun b o x => Heap.get?_push_of_some _ (Heap.get?_push_of_some _ x)⟩
/-- the tuple at a, each item in a newT pair -/
def Itet (K : PySem.W.Frag) (a : Addr) : It :=
  ⟨fun i H => ∃ (xs : List V) (x : V), SqT K H a xs ∧ xs[i]? = some x, fun i H v H' => ∃ T x, v = .ref T ∧ H T = none ∧ H' = upd H T (.tup [.int (i : Nat), x]) ∧ ∀ xs, SqT K H a xs → xs[i]? = some x, fun i H => ∃ xs : List V, SqT K H a xs ∧ xs.length = i⟩
theorem tup_inj {X : Cx} {pn : List (Addr × Obj)} {σ : L2.St} {H : Hp} {s : Shared} {a : Addr} {xs ys : List V} (I : Inv X pn σ H s) (h : SqT X.K H a xs) (h' : SqT X.K H a ys) : xs = ys := by
  obtain ⟨vals, r, ⟨o, e, _, n, dr⟩, _⟩ := I.tuple h
  obtain ⟨vals2, r2, ⟨o2, eOr, _, n2, dt2⟩, _⟩ := I.tuple h'
  rw [e] at eOr; cases eOr
  rw [dr] at dt2
  injection dt2 with dt1 _
  have : vals = vals2 := by simpa using congrArg Array.toList dt1
  subst this
  exact r.inj r2
theorem turn_enumT {P : Program} {w : World} {K : PySem.W.Frag} {elts : List Expr} {kk : Nat} {tpos : PySem.Pos} (a e it : Addr) :
    Turn P w K (.Tuple elts kk tpos) (Itet K a) [e, it] e (fun i h => (∃ o0, IsEnum h e it ((i : Nat) : Int) o0) ∧ h.IsTupleIter it a i ∧ e ≠ it ∧ a ≠ it ∧ a ≠ e) where
  mem := by simp
  obj := fun i h stt b hb => by
    obtain ⟨⟨o0, hEn⟩, ⟨o, ho, hcl, hdt⟩, _⟩ := stt
    have eOr : b = e ∨ b = it := by simpa using hb
    rcases eOr with z | z
    · rw [z]; exact ⟨_, hEn, fun v qq => nomatch qq⟩
    · rw [z]; exact ⟨o, ho, fun v qq => by rw [hdt] at qq; cases qq⟩
  keep := fun i h h' stt k => let ⟨⟨o0, hEn⟩, hi, nEI⟩ := stt; ⟨⟨o0, k e (by simp) _ hEn⟩, hi.at fun o qq => k it (by simp) o qq, nEI⟩
  item := by
    intro X hPP hww hKK hcl i pn s σ H E I hfp stt hg
    subst hPP hww hKK
    obtain ⟨⟨o0, hEn⟩, hIt, nEI, nAI, nAE⟩ := stt
    obtain ⟨xs, x, hSeq, hAt⟩ := hg
    obtain ⟨vals, vv, p, hsize⟩ := I.tuple hSeq
    obtain ⟨u, hUs, rvU⟩ := vv.get hAt
    have ltE : e < s.heap.objs.size := Heap.lt_size hEn
    have ltI : it < s.heap.objs.size := by obtain ⟨_, qq, _⟩ := hIt; exact Heap.lt_size qq
    have ltN : i < vals.toArray.size := by
      have qq := (List.getElem?_eq_some_iff.mp hUs).1
      simpa using qq
    refine wpAny_pyNext_enum_itemD (Draws.tuple (A := X.A.in1) (I.ok.hd hcl) it a nAI vals.toArray) hEn ⟨hIt, p⟩ ltN nEI (by simp [nEI, Ne.symm nAE]) fun y h' tok hy ho hst hT sizeN kp => ?_
    obtain rfl : u = y := by
      have qq : vals.toArray[i]? = some u := by simpa using hUs
      rw [qq] at hy
      exact Option.some.inj hy
    obtain ⟨hit', _⟩ := hst
    refine ⟨_, rfl, wpAny_letOwnedTupleGo_enum (s := { s with heap := h', toks := tok + 1 }) ho fun h'' he' sbt => ?_⟩
    have tupB : h''.get? s.heap.objs.size = some { cls := .type "tuple", data := .seq #[.int i tok, u] } := (sbt.2 _ (Nat.ne_of_gt ltE)).trans hT
    have newT : ObjOk X.prog X.w (upd H s.heap.objs.size (.tup [.int (i : Nat), x])) h'' s.heap.objs.size (.tup [.int (i : Nat), x]) :=
      ⟨by show 2 ≤ sizeLine; decide, [.int i tok, u], .cons ⟨_, rfl⟩ (.cons rvU .nil), ⟨_, tupB, rfl, _, rfl⟩⟩
    have In1 : Inv X pn σ (upd H s.heap.objs.size (.tup [.int (i : Nat), x])) { s with heap := h'', toks := tok + 1 } :=
      I.turnedNew (ch := [e, it]) (fun b ob hb qq => (sbt.2 b (fun z => hb (by simp [z]))).trans (kp b ob (fun z => hb (by simp [z])) (fun z => hb (by simp [z])) qq)) hfp (Nat.le_refl _) newT
    refine ⟨.ref s.heap.objs.size, _, In1, rfl, ⟨_, x, rfl, I.hok.fresh (Nat.le_refl _), rfl, fun ys hy => by rw [tup_inj I hy hSeq]; exact hAt⟩, ⟨⟨u, ?_⟩, hit'.at fun o qq => (sbt.2 it (Ne.symm nEI)).trans qq, nEI, nAI, nAE⟩, fun b hb => ?_⟩
    · have eSu : ((i + 1 : Nat) : Int) = (i : Int) + 1 := by omega
      rw [eSu]; exact he'
    · have hlt2 : b < s.heap.objs.size := by
        have eOr : b = e ∨ b = it := by simpa using hb
        rcases eOr with z | z
        · rw [z]; exact ltE
        · rw [z]; exact ltI
      rw [upd_ne (Nat.ne_of_lt hlt2)]
      exact (hfp b hb).1
  done := by
    intro X hPP hww hKK hcl i pn s σ H E I hfp stt hg
    subst hPP hww hKK
    obtain ⟨⟨o0, hEn⟩, hIt, nEI, nAI, nAE⟩ := stt
    obtain ⟨xs, hSeq, hAt⟩ := hg
    obtain ⟨vals, vv, p, hsize⟩ := I.tuple hSeq
    obtain ⟨c0, c1, c2, c3, c4, c5⟩ := hfp it (by simp)
    have lenV := vv.length
    have sizeN : vals.toArray.size = i := by simp; omega
    refine wpAny_pyNext_enum_endD (Draws.tuple (A := X.A.in1) (I.ok.hd hcl) it a nAI vals.toArray) hEn ⟨by rw [sizeN]; exact hIt, p⟩ fun h' eb => ⟨rfl, I.turned (t' := s.toks) (fun b o hb qq => eb b o hb qq) c0 c1 c3 c4 c5⟩
  self := fun A i s Q E stt h => let ⟨⟨_, hEn⟩, _⟩ := stt; wpAny_pyIter_enum hEn h
def iEnumT (K : PySem.W.Frag) (ta : TA) : TI := fun σ H R => ta σ H fun vs H1 => ∃ a xs, vs = [.ref a] ∧ SqT K H1 a xs ∧ R (Itet K a) H1
theorem pi_enumT {X : Cx} {e : Expr} {ta : TA} {p pos tpos : PySem.Pos} {elts : List Expr} {kk : Nat} (hg : Gl X "enumerate") (hm : X.mg "enumerate" = none) (ha : PA X [e] ta) (hs : starEach [e] X.env = [(false, eval e X.env)] := by rfl) :
    PI X (.Tuple elts kk tpos) (.Call (.Name "enumerate" p) [e] [] pos) (iEnumT X.K ta) := by
  refine ⟨fun pn s σ H R I h => ?_⟩
  refine Call_ (ld_blt I hg hm boot_enumerate (PyProof.Rows.callWith_type1 (thn (ha.run pos pn s σ H _ I h) fun us1 s1 ⟨vs, H1, In1, rv1, qI⟩ => ?_) hs rfl))
  obtain ⟨a, xs, eA, hSeq, qq⟩ := qI
  subst eA
  cases rv1 with
  | cons r rvs =>
    cases rvs
    cases r
    obtain ⟨vals, vv, p', hsize⟩ := In1.tuple hSeq
    have ltA : a < s1.heap.objs.size := p'.lt
    refine call_new (begins_tuple a vals.toArray) p' fun h' hEn hIt sizeN kp => wpAny_pyIter_enum hEn ?_
    have In2 : Inv X pn σ H1 { s1 with heap := h' } := In1.kept (t' := s1.toks) kp
    refine ⟨s1.heap.objs.size + 1, [s1.heap.objs.size + 1, s1.heap.objs.size], _, _, H1, rfl, In2, turn_enumT a (s1.heap.objs.size + 1) s1.heap.objs.size, ⟨⟨.none, hEn⟩, ⟨_, hIt, rfl, rfl⟩, Nat.succ_ne_self _, Nat.ne_of_lt ltA, Nat.ne_of_lt (Nat.lt_succ_of_lt ltA)⟩, fun b hb => ?_, qq⟩
    have eOr : b = s1.heap.objs.size + 1 ∨ b = s1.heap.objs.size := by simpa using hb
    have leB : s1.heap.objs.size ≤ b := by
      rcases eOr with z | z
      · rw [z]; exact Nat.le_add_right _ _
      · rw [z]; exact Nat.le_refl _
    exact In1.fpOk leB (In1.hok.fresh leB)
theorem walk_enumT {K : PySem.W.Frag} {a : Addr} {xs : List V} : Walk (Itet K a) xs.length (fun H => SqT K H a xs) (YPair (fun i => some (.int (i : Nat))) (fun i => xs[i]?)) := by
  refine ⟨fun i _ hi qq => ⟨xs, xs[i], qq, by simp [hi]⟩, fun _ qq => ⟨xs, qq, rfl⟩, fun i H v H' _ qq y => ?_⟩
  obtain ⟨T, x, hv, hC, hA, hB2⟩ := y
  exact ⟨T, .int (i : Nat), x, hv, hC, hA, rfl, hB2 xs qq⟩
end EnT
end

section
set_option Elab.async false
set_option linter.all false
set_option maxRecDepth 100000
set_option maxHeartbeats 2000000
namespace Wk
open PySem PySem.Spec PyProof.Rows L2 Evl Rk
/-! ### webs -/
structure Wb where
  p : Int
  n : Nat
  ps : List (List Int × Int)
def Wb.pc (W : Wb) (i : Nat) : List Int × Int := W.ps.getD i ([], 0)
def Wb.rows (W : Wb) (l : List Nat) : List (List Int) := l.map fun i => (W.pc i).1
def Wb.size (W : Wb) (l : List Nat) : Int := (l.map fun i => (W.pc i).2).sum
structure PcOk (p : Int) (n : Nat) (q : List Int × Int) : Prop where
  row : Mth.IsRow p n q.1
  nz : ∃ x, x ∈ q.1 ∧ x ≠ 0
  lo : 1 ≤ q.2
  hi : q.2 ≤ 1000000
structure Wok (W : Wb) : Prop where
  p2 : 2 ≤ W.p
  p251 : W.p ≤ 251
  pr : ∀ o : Int, 2 ≤ o → o < W.p → W.p % o ≠ 0
  inv : Mth.Inv W.p
  n1 : 1 ≤ W.n
  n10 : W.n ≤ 10
  len : W.ps.length ≤ 40
  pcs : ∀ q, q ∈ W.ps → PcOk W.p W.n q
theorem Wok.pc {W : Wb} (h : Wok W) {i : Nat} (hi : i < W.ps.length) : PcOk W.p W.n (W.pc i) := by
  unfold Wb.pc
  have e : W.ps.getD i ([], 0) = W.ps[i] := by simp [hi]
  rw [e]
  exact h.pcs _ (List.getElem_mem hi)
noncomputable def Wb.F (W : Wb) (l : List Nat) : Bool := @decide (Mth.Full W.p W.n (W.rows l)) (Classical.propDecidable _)
theorem Wb.F_iff (W : Wb) (l : List Nat) : W.F l = true ↔ Mth.Full W.p W.n (W.rows l) := by
  unfold Wb.F
  exact @decide_eq_true_iff _ (Classical.propDecidable _)
/-! ### webs in the heap -/
def PieceAt (q : List Int × Int) (v : V) (H : Hp) : Prop := ∃ t a, v = .ref t ∧ H t = some (.tup [.ref a, .int q.2]) ∧ H a = some (.tup (q.1.map V.int))
theorem PieceAt.t {q : List Int × Int} {v : V} {H H' : Hp} (e : ExT H H') (h : PieceAt q v H) : PieceAt q v H' := by
  obtain ⟨t, a, h1, h2, h3⟩ := h
  exact ⟨t, a, h1, e _ _ h2 rfl, e _ _ h3 rfl⟩
def PsAt (ps : List (List Int × Int)) (a : Addr) (H : Hp) : Prop := ∃ vs, H a = some (.tup vs) ∧ Paired (fun q v => PieceAt q v H) ps vs
theorem PsAt.t {ps : List (List Int × Int)} {a : Addr} {H H' : Hp} (e : ExT H H') (h : PsAt ps a H) : PsAt ps a H' := by
  obtain ⟨vs, h1, h2⟩ := h
  exact ⟨vs, e _ _ h1 rfl, h2.mono fun _ _ q => q.t e⟩
def wfs (p : Int) (n : Nat) (a : Addr) : List (Str × V) := [("prime", .int p), ("many", nV n), ("pieces", .ref a)]
theorem wfs_prime (p : Int) (n : Nat) (a : Addr) : (wfs p n a).lookup ("prime" : Str) = some (.int p) := rfl
theorem wfs_many (p : Int) (n : Nat) (a : Addr) : (wfs p n a).lookup ("many" : Str) = some (nV n) := by
  unfold wfs
  rw [List.lookup_cons, show (("many" : Str) == "prime") = false by decide]
  rfl
theorem wfs_pieces (p : Int) (n : Nat) (a : Addr) : (wfs p n a).lookup ("pieces" : Str) = some (.ref a) := by
  unfold wfs
  rw [List.lookup_cons, show (("pieces" : Str) == "prime") = false by decide]
  show List.lookup ("pieces" : Str) [(("many" : Str), nV n), (("pieces" : Str), V.ref a)] = _
  rw [List.lookup_cons, show (("pieces" : Str) == "many") = false by decide]
  rfl
theorem put_w1 (p : Int) : putF "prime" (.int p) [] = [(("prime" : Str), V.int p)] := rfl
theorem put_w2 (p : Int) (n : Nat) : putF "many" (nV n) [(("prime" : Str), V.int p)] = [(("prime" : Str), V.int p), (("many" : Str), nV n)] := by
  show (if ("prime" : Str) = "many" then _ else _) = _
  rw [if_neg (by decide)]
  rfl
theorem put_w3 (p : Int) (n : Nat) (a : Addr) : putF "pieces" (.ref a) [(("prime" : Str), V.int p), (("many" : Str), nV n)] = wfs p n a := by
  show (if ("prime" : Str) = "pieces" then _ else _) = _
  rw [if_neg (by decide)]
  show (("prime" : Str), V.int p) :: (if ("many" : Str) = "pieces" then _ else _) = _
  rw [if_neg (by decide)]
  rfl
def WebAt (C : Addr) (W : Wb) (v : V) (H : Hp) : Prop := ∃ x dx a, v = .ref x ∧ H x = some (.ins C dx (wfs W.p W.n a)) ∧ PsAt W.ps a H
theorem WebAt.on {C : Addr} {W : Wb} {v : V} {H H' : Hp} (e : Ex H H') (h : WebAt C W v H) : WebAt C W v H' := by
  obtain ⟨x, dx, a, h1, h2, h3⟩ := h
  exact ⟨x, dx, a, h1, e _ _ h2, h3.t (Ex.t e)⟩
/-- places of a lot lie in the web -/
def In (W : Wb) (l : List Nat) : Prop := ∀ i, i ∈ l → i < W.ps.length
section
variable {K : PySem.W.Frag} {base : Heap} {mg : Str → Option Value} {P : Program} {w : World}
theorem PsAt.at {W : Wb} {a : Addr} {H : Hp} (h : PsAt W.ps a H) {i : Nat} (hi : i < W.ps.length) : ∃ vs v, H a = some (.tup vs) ∧ atI vs (i : Int) = some v ∧ PieceAt (W.pc i) v H := by
  obtain ⟨vs, h1, h2⟩ := h
  obtain ⟨v, h3, h4⟩ := pget h2 (List.getElem?_eq_getElem hi)
  refine ⟨vs, v, h1, atI_nat h3, ?_⟩
  unfold Wb.pc
  have e : W.ps.getD i ([], 0) = W.ps[i] := by simp [hi]
  rw [e]
  exact h4
def sp_is_piece : Sp := fun vs H Q _ => ∃ (p : Int) (n : Nat) (v : V) (q : List Int × Int), vs = [.int p, nV n, v] ∧ PieceAt q v H ∧ PcOk p n q ∧ 1 ≤ n ∧ n ≤ 10 ∧ Ret H (fun x _ => x = .bl true) Q
theorem ok_is_piece (E : Env K mg) : FnOk P w K mg base CX0 4 E.d_is_piece.f E.d_is_piece.fd ["prime", "many", "thing"] sp_is_piece := by
  refine E.d_is_piece.F.ok sc_is_piece (fun vs H Q E h => ?_) (fun cdv A outer s H vs Q E' hr h => ?_)
  · obtain ⟨p, n, v, q, rfl, _⟩ := h
    rfl
  · obtain ⟨p, n, v, q, rfl, ⟨t, a, rfl, ht, ha⟩, ok, n1, n10, k⟩ := h
    refine ⟨_, PSs.nox (pss_one (ps_ret (pe_and (pe_call (ok_is_pair E) (hr.mono (by decide)) rfl E.d_is_pair.g E.d_is_pair.F.kp E.d_is_pair.b .nil pass0 (pa_cons (pv 2) pa_nil)) (pe_and (pe_call (ok_is_sum E) (hr.mono (by decide)) rfl E.d_is_sum.g E.d_is_sum.F.kp E.d_is_sum.b .nil pass0 (pa_cons (pv 0) (pa_cons (pe_ix ix_tup (pv 2) pe_int (fun _ _ => rfl)) pa_nil))) (pe_and (pe_cmpR op_eq (pe_callB call_len_seq (by rfl) E.f_len (by decide +kernel) (pa_cons (pe_ix ix_tup (pv 2) pe_int (fun _ _ => rfl)) pa_nil)) (pv 1) (nomark _)) (pe_one (pe_call (ok_is_within E) (hr.mono (by decide)) rfl E.d_is_within.g E.d_is_within.F.kp E.d_is_within.b .nil pass0 (pa_cons (pe_ix ix_tup (pv 2) pe_int (fun _ _ => rfl)) (pa_cons pe_int (pa_cons (pe_glob (v := .int 1000000) rfl E.c_MOST_SIZE.h ⟨_, rfl⟩) pa_nil)))))))))), ?_⟩
    have hl : (q.1.map V.int).length = n := by rw [List.length_map, ok.row.1]
    have ix0 : ∀ {te ti : TE} {σ : L2.St}, Ev te σ H (.ref t) → Ev ti σ H (.int 0) → Ev (tOp (rIxT K) te ti) σ H (.ref a) := fun h1 h2 => ev_op h1 h2 (rv_ixT (SqT.of ht) (atI_nat (j := 0) rfl))
    have ix1 : ∀ {te ti : TE} {σ : L2.St}, Ev te σ H (.ref t) → Ev ti σ H (.int 1) → Ev (tOp (rIxT K) te ti) σ H (.int q.2) := fun h1 h2 => ev_op h1 h2 (rv_ixT (SqT.of ht) (atI_nat (j := 1) rfl))
    refine s_ret (ev_andV (a := true) (b := true) (ev_callV (ea_cons (ev_var rfl) ea_nil) fun H1 e1 Q1 r1 => ⟨t, _, rfl, e1 _ _ ht, r1⟩) fun _ => ev_andV (a := true) (b := true) (ev_callV (ea_cons (ev_var rfl) (ea_cons (ix0 (ev_var rfl) ev_c) ea_nil)) fun H1 e1 Q1 r1 => ⟨p, a, q.1, rfl, e1 _ _ ha, by rw [ok.row.1]; exact n1, by rw [ok.row.1]; exact n10, ok.row.2, ok.nz, r1⟩) fun _ => ev_andV (a := true) (b := true) ?_ fun _ => ?_) fun H1 e1 => k.val e1
    · refine ev_is (ev_op (ev_lenS (ix0 (ev_var rfl) ev_c) (.inr (SqT.of ha))) (ev_var rfl) (rv_eq rfl)) ?_
      rw [hl, decide_eq_true rfl]
    · refine ev_within (lo := 1) (hi := 1000000) (ea_cons (ix1 (ev_var rfl) ev_c) (ea_cons ev_c (ea_cons ev_c ea_nil))) (.int q.2) ?_
      show (decide (1 ≤ q.2) && decide (q.2 ≤ 1000000)) = true
      rw [decide_eq_true ok.lo, decide_eq_true ok.hi] <;> rfl
def sp_Web_init (C : Addr) : Sp := fun vs H Q _ => ∃ (x dx a : Addr) (W : Wb), vs = [.ref x, .int W.p, nV W.n, .ref a] ∧ H x = some (.ins C dx []) ∧ PsAt W.ps a H ∧ Wok W ∧ ∀ H', (∀ b o, b ≠ x → H b = some o → H' b = some o) → H' x = some (.ins C dx (wfs W.p W.n a)) → Q .non H'
theorem ok_Web_init (E : Env K mg) : FnOk P w K mg base CX0 5 E.i_Web.f E.i_Web.fd ["self", "prime", "many", "pieces"] (sp_Web_init E.CW) := by
  refine E.i_Web.F.ok sc_Web_init (fun vs H Q E h => ?_) (fun cdv A outer s H vs Q E' hr h => ?_)
  · obtain ⟨x, dx, a, W, rfl, _⟩ := h
    rfl
  · obtain ⟨x, dx, a, W, rfl, hx, ⟨pvs, ha, hp⟩, ok, k⟩ := h
    refine ⟨_, PSs.nox (pss_cons (ps_if (pt_not (pt_val (pe_call (ok_is_prime E) (hr.mono (by decide)) rfl E.d_is_prime.g E.d_is_prime.F.kp E.d_is_prime.b .nil pass0 (pa_cons (pv 1) pa_nil)))) (pss_one ps_never) pss_nil) (pss_cons (ps_if (pt_not (pt_val (pe_call (ok_is_within E) (hr.mono (by decide)) rfl E.d_is_within.g E.d_is_within.F.kp E.d_is_within.b .nil pass0 (pa_cons (pv 2) (pa_cons pe_int (pa_cons (pe_glob (v := .int 10) rfl E.c_MOST_MANY.h ⟨_, rfl⟩) pa_nil)))))) (pss_one ps_never) pss_nil) (pss_cons (ps_if (PW.pt (pw_or (pt_not (pt_val (pe_callB call_isi (by rfl) E.f_isinstance (by decide +kernel) (pa_cons (pv 3) (pa_cons (pe_bltn (v := .ty "tuple") rfl E.f_tuple (by decide +kernel) rfl) pa_nil))))) (pw_or1 (pt_cmpR op_gt (pe_callB call_len_seq (by rfl) E.f_len (by decide +kernel) (pa_cons (pv 3) pa_nil)) (pe_glob (v := .int 40) rfl E.c_MOST_PIECES.h ⟨_, rfl⟩) (nomark _))))) (pss_one ps_never) pss_nil) (pss_cons (ps_for PassesOwn.never rfl (EnT.pi_enumT rfl E.f_enumerate (pa_cons (pv 3) pa_nil)) (pg_tup rfl (pgs_cons (pg_name (i := 4) sc_Web_init.nd rfl (by first | exact Or.inl rfl | exact Or.inr rfl)) (pgs_cons (pg_name (i := 5) sc_Web_init.nd rfl (by first | exact Or.inl rfl | exact Or.inr rfl)) pgs_nil))) (pss_one (ps_if (pt_not (pt_val (pe_call (ok_is_piece E) (hr.mono (by decide)) rfl E.d_is_piece.g E.d_is_piece.F.kp E.d_is_piece.b .nil pass0 (pa_cons (pv 1) (pa_cons (pv 2) (pa_cons (pv 5) pa_nil)))))) (pss_one ps_never) pss_nil))) (pss_cons (ps_fld (pv 0) (pv 1) rfl) (pss_cons (ps_fld (pv 0) (pv 2) rfl) (pss_one (ps_fld (pv 0) (pv 3) rfl)))))))), ?_⟩
    have hl : pvs.length = W.ps.length := hp.length.symm
    refine q_when (b := false) (et_not (a := true) (et_B (ev_callV (ea_cons (ev_var rfl) ea_nil) fun H1 e1 Q1 r1 => ⟨W.p, rfl, ok.p2, ok.p251, ok.pr, r1⟩))) (fun h => nomatch h) fun _ H1 e1 => ?_
    refine q_when (b := false) (et_not (a := true) (et_B (ev_within (lo := 1) (hi := 10) (ea_cons (ev_var rfl) (ea_cons ev_c (ea_cons ev_c ea_nil))) (.int _) ?_))) (fun h => nomatch h) fun _ H2 e2 => ?_
    · show (decide ((1 : Int) ≤ (W.n : Int)) && decide ((W.n : Int) ≤ 10)) = true
      have := ok.n1
      have := ok.n10
      rw [decide_eq_true (by omega), decide_eq_true (by omega)] <;> rfl
    refine q_when (b := false) (et_or (a := false) (b := false) (et_not (a := true) (et_B (IsiA.ev (ev_var rfl) fun H3 e3 => isi_tup (e3 _ _ (e2 _ _ (e1 _ _ ha)))))) fun _ => et_test (ev_op (ev_lenS (ev_var rfl) (.inr (SqT.of (e2 _ _ (e1 _ _ ha))))) ev_c (rv_b ?_))) (fun h => nomatch h) fun _ H3 e3 => ?_
    · have := ok.len
      exact congrArg V.bl (decide_eq_false (by omega))
    have E3 : Ex H H3 := (e1.trans e2).trans e3
    refine ⟨_, rfl, a, pvs, rfl, SqT.of (E3 _ _ ha), for_it (EnT.walk_enumT (xs := pvs)) (fun i σ H' => ∃ u4 u5, σ = [some (.ref x), some (.int W.p), some (nV W.n), some (.ref a), u4, u5] ∧ Ex H H') ⟨none, none, rfl, E3⟩ (fun i σ H' _ h => ?_) (fun i y σ H' H'' hi h hy => ?_) fun σ H' h => ?_⟩
    · obtain ⟨_, _, _, e⟩ := h
      exact SqT.of (e _ _ ha)
    · obtain ⟨u4, u5, rfl, e⟩ := h
      obtain ⟨T, v1, v2, rfl, nT, rfl, h1, h2⟩ := hy
      obtain ⟨q, hq, hpc⟩ := pget2 hp h2
      have eT : Ex H (upd H' T (.tup [v1, v2])) := e.trans (Ex.new nT)
      refine ⟨T, [v1, v2], rfl, SqT.of upd_same, rfl, v1, [v2], rfl, v2, [], rfl, rfl, ?_⟩
      refine s_when (b := false) (et_not (a := true) (et_B (ev_callV (ea_cons (ev_var rfl) (ea_cons (ev_var rfl) (ea_cons (ev_var rfl) ea_nil))) fun H4 e4 Q4 r4 => ⟨W.p, W.n, v2, q, rfl, hpc.t (Ex.t (eT.trans e4)), ok.pcs q (List.mem_of_getElem? hq), ok.n1, ok.n10, r4⟩))) (fun h => nomatch h) fun _ H4 e4 => ?_
      exact ⟨_, _, rfl, eT.trans e4⟩
    · obtain ⟨u4, u5, rfl, e⟩ := h
      refine ⟨_, rfl, _, rfl, x, E.CW, dx, [], rfl, e _ _ hx, E.k_Web, E.a_prime, by decide, ?_⟩
      rw [put_w1]
      refine ⟨_, rfl, _, rfl, x, E.CW, dx, _, rfl, upd_same, E.k_Web, E.a_many, by show 1 < 1000; decide, ?_⟩
      rw [put_w2]
      refine ⟨_, rfl, _, rfl, x, E.CW, dx, _, rfl, upd_same, E.k_Web, E.a_pieces, by show 2 < 1000; decide, ?_⟩
      rw [put_w3]
      refine k _ (fun b o hb h => ?_) upd_same
      rw [upd_ne hb, upd_ne hb, upd_ne hb]
      exact e _ _ h
end
end Wk
end

section
set_option Elab.async false
set_option linter.all false
set_option maxRecDepth 100000
set_option maxHeartbeats 2000000
namespace Wk
open PySem PySem.Spec PyProof.Rows L2 Evl Rk
/-- the scope of the comprehension that a call is of -/
def lcOf : Expr → Scope
  | .ListComp _ _ s _ => s
  | .Call _ (a :: _) _ _ => lcOf a
  | .UnaryOp _ a _ => lcOf a
  | _ => defScope (.Pass ⟨0, 0, 0, 0⟩)
def retE : List Stmt → Expr
  | .Return (some e) _ :: _ => e
  | _ => .Constant .none 0 ⟨0, 0, 0, 0⟩
def harmsE : List Stmt → Expr
  | [_, .For _ _ [.For _ _ [.If c _ _ _] _ _] _ _, _] => c
  | _ => .Constant .none 0 ⟨0, 0, 0, 0⟩
section
variable {K : PySem.W.Frag} {base : Heap} {mg : Str → Option Value} {P : Program} {w : World}
/-! ### lots of a web -/
def LotB (H : Hp) (v : V) (many : Int) (b : Bool) : Prop := (∃ a xs, v = .ref a ∧ H a = some (.tup xs) ∧ (∀ x, x ∈ xs → Th H x) ∧ b = lotB many (-1) xs) ∨ (Th H v ∧ (∀ a xs, v = .ref a → H a ≠ some (.tup xs)) ∧ b = false)
theorem LotB.on {H H' : Hp} {v : V} {many : Int} {b : Bool} (e : Ex H H') (h : LotB H v many b) : LotB H' v many b := by
  rcases h with ⟨a, xs, h1, h2, h3, h4⟩ | ⟨h1, h2, h3⟩
  · exact .inl ⟨a, xs, h1, e _ _ h2, fun x hx => (h3 x hx).on e, h4⟩
  · refine .inr ⟨h1.on e, fun a xs ea => ?_, h3⟩
    cases h1 with
    | lst h =>
      cases ea
      rw [e _ _ h]
      intro z
      cases z
    | tup h =>
      cases ea
      exact absurd h (h2 _ _ rfl)
    | dct h =>
      cases ea
      rw [e _ _ h]
      intro z
      cases z
    | _ => cases ea
theorem lotB_lot {m : Int} : ∀ {l : List Nat} {last : Int}, l.Pairwise (· < ·) → (∀ i, i ∈ l → (i : Int) < m) → (∀ i, i ∈ l → last < (i : Int)) → lotB m last (l.map nV) = true
  | [], _, _, _, _ => rfl
  | i :: r, last, h1, h2, h3 => by
    show (isIn (nV i) (last + 1) (m - 1) && lotB m (i : Int) (r.map nV)) = true
    have a1 := h2 i List.mem_cons_self
    have a2 := h3 i List.mem_cons_self
    rw [lotB_lot (List.pairwise_cons.mp h1).2 (fun j hj => h2 j (List.mem_cons_of_mem _ hj)) fun j hj => by
      have := (List.pairwise_cons.mp h1).1 j hj
      omega]
    show ((decide (last + 1 ≤ (i : Int)) && decide ((i : Int) ≤ m - 1)) && true) = true
    rw [decide_eq_true (by omega), decide_eq_true (by omega)] <;> rfl
theorem ev_pieces (E : Env K mg) {σ : L2.St} {H : Hp} {tw : TE} {W : Wb} {x dx a : Addr} (h : Ev tw σ H (.ref x)) (ho : H x = some (.ins E.CW dx (wfs W.p W.n a))) : Ev (tFld K tw "pieces") σ H (.ref a) := ev_fld h ho E.k_Web E.a_pieces (wfs_pieces _ _ _)
def sp_is_lot_of (C : Addr) : Sp := fun vs H Q _ => ∃ (W : Wb) (wv v : V) (b : Bool), vs = [wv, v] ∧ WebAt C W wv H ∧ LotB H v (W.ps.length : Int) b ∧ Ret H (fun x _ => x = .bl b) Q
theorem ok_is_lot_of (E : Env K mg) : FnOk P w K mg base CX0 4 E.d_is_lot_of.f E.d_is_lot_of.fd ["web", "thing"] (sp_is_lot_of E.CW) := by
  refine E.d_is_lot_of.F.ok sc_is_lot_of (fun vs H Q E h => ?_) (fun cdv A outer s H vs Q E' hr h => ?_)
  · obtain ⟨W, wv, v, b, rfl, _⟩ := h
    rfl
  · obtain ⟨W, wv, v, b, rfl, ⟨x, dx, a, rfl, hx, pvs, ha, hp⟩, hb, k⟩ := h
    refine ⟨_, PSs.nox (pss_one (ps_ret (pe_call (ok_is_lot E) (hr.mono (by decide)) rfl E.d_is_lot.g E.d_is_lot.F.kp E.d_is_lot.b .nil pass0 (pa_cons (pv 1) (pa_cons (pe_callB call_len_seq (by rfl) E.f_len (by decide +kernel) (pa_cons (pe_fld (pv 0) rfl) pa_nil)) pa_nil))))), ?_⟩
    have hl : W.ps.length = pvs.length := hp.length
    rw [hl] at hb
    refine s_retP (ev_callA (P := fun y _ => y = .bl b) (ea_cons (ev_var rfl) (ea_cons (ev_lenS (ev_pieces E (ev_var rfl) hx) (.inr (SqT.of ha))) ea_nil)) fun H1 e1 Q1 r1 => ⟨v, pvs.length, rfl, ?_⟩) k
    rcases hb.on e1 with ⟨a', xs, h1, h2, h3, h4⟩ | ⟨h1, h2, h3⟩
    · rw [h4] at r1
      exact .inl ⟨a', xs, h1, h2, h3, r1⟩
    · rw [h3] at r1
      exact .inr ⟨h1, h2, r1⟩
def sp_size_in (C : Addr) : Sp := fun vs H Q _ => ∃ (W : Wb) (wv v : V) (l : List Nat), vs = [wv, v] ∧ WebAt C W wv H ∧ LotAt l v H ∧ In W l ∧ l.length ≤ 40 ∧ Ret H (fun x _ => x = .int (W.size l)) Q
theorem ok_size_in (E : Env K mg) : FnOk P w K mg base CX0 1 E.d_size_in.f E.d_size_in.fd ["web", "lot"] (sp_size_in E.CW) := by
  refine E.d_size_in.F.ok sc_size_in (fun vs H Q E h => ?_) (fun cdv A outer s H vs Q E' hr h => ?_)
  · obtain ⟨W, wv, v, l, rfl, _⟩ := h
    rfl
  · obtain ⟨W, wv, v, l, rfl, ⟨x, dx, a, rfl, hx, hps⟩, ⟨b, rfl, hb⟩, hin, h40, k⟩ := h
    refine ⟨_, PSs.nox (pss_one (ps_ret (pe_callB (cr_sum rfl) (by rfl) E.f_sum (by decide +kernel) (pa_cons (pe_lc (own := [("piece", 2)]) (g := gName 2) rfl sc_size_in.nd (pi_tup (pv 1)) (blkOk_by (N := n_size_in) (sc := defScope s_size_in) (by decide +kernel)) (fun _ _ _ _ _ => (pg_name (i := 2) sc_size_in.nd rfl (by first | exact Or.inl rfl | exact Or.inr rfl))) (fun _ _ _ _ _ => pts_nil) (fun _ _ _ _ _ => (pe_ix (kx_tup (K := K) (by rfl)) (pe_ix (kx_tup (K := K) (by rfl)) (kx_fld (K := K) (by rfl) (pv 0) rfl) (pv 2) (fun _ _ => rfl)) pe_int (fun _ _ => rfl)))) pa_nil)))), ?_⟩
    refine s_ret (ev_sum (lc_mapW (as := l) (rep := nV) (ei_tup (ev_var rfl) (SqT.of hb)) V.int (fun i => (W.pc i).2) (by omega) (fun _ => by rfl) fun i H1 e1 hi => ?_)) fun H1 e1 => k.val e1
    obtain ⟨vs, v, h1, h2, t, a', rfl, h3, h4⟩ := hps.at (hin i hi)
    exact ev_op (ev_op (ev_pieces E (ev_var rfl) (e1 _ _ hx)) (ev_var rfl) (rv_ixT (SqT.of (e1 _ _ h1)) h2)) ev_c (rv_ixT (SqT.of (e1 _ _ h3)) (atI_nat (j := 1) rfl))
def sp_left_of : Sp := fun vs H Q _ => ∃ (u v : V) (l s : List Nat), vs = [u, v] ∧ LotAt l u H ∧ LotAt s v H ∧ l.length ≤ 40 ∧ Ret H (LotAt (Mth.left l s)) Q
/-- tuple([..]) of a fresh list -/
theorem evp_tupP {σ : L2.St} {H : Hp} {te : TE} {xs : List V} (h : EvP te σ H (NewL H xs)) : EvP (tThen te (kTup K)) σ H (fun v H' => ∃ a, v = .ref a ∧ H' a = some (.tup xs)) := fun H1 e1 Q r => h H1 e1 _ fun v H2 e2 p => by
  obtain ⟨a, rfl, _, ha⟩ := p.now
  exact .inl ⟨a, xs, rfl, SqL.of ha, fun q hq => r _ _ (e2.trans (Ex.new hq)) fun H3 e3 => ⟨q, rfl, e3 _ _ upd_same⟩⟩
theorem ok_left_of (E : Env K mg) : FnOk P w K mg base CX0 1 E.d_left_of.f E.d_left_of.fd ["lot", "lost"] sp_left_of := by
  refine E.d_left_of.F.ok sc_left_of (fun vs H Q E h => ?_) (fun cdv A outer s H vs Q E' hr h => ?_)
  · obtain ⟨u, v, l, s, rfl, _⟩ := h
    rfl
  · obtain ⟨u, v, l, s, rfl, ⟨a, rfl, ha⟩, ⟨b, rfl, hb⟩, h40, k⟩ := h
    refine ⟨_, PSs.nox (pss_one (ps_ret (pe_tupleOf rfl E.f_tuple (pe_lc (own := [("piece", 2)]) (g := gName 2) rfl sc_left_of.nd (pi_tup (pv 0)) (blkOk_by (N := n_left_of) (sc := defScope s_left_of) (by decide +kernel)) (fun _ _ _ _ _ => (pg_name (i := 2) sc_left_of.nd rfl (by first | exact Or.inl rfl | exact Or.inr rfl))) (fun _ _ _ _ _ => (pts_one (pt_cmpR (kx_notIn (K := K) (by rfl)) (pv 2) (pv 1) rfl))) (fun _ _ _ _ _ => (pv 2)))))), ?_⟩
    refine s_retP (evp_tupP (lc_fmap (as := l) (rep := nV) (ei_tup (ev_var rfl) (SqT.of ha)) (fun i => !decide (i ∈ s)) nV (by omega) (fun _ => by rfl) (fun i H1 e1 hi => ?_) fun i H1 e1 hi _ => ev_var rfl)) k
    have h := rv_niT (K := K) (x := nV i) (SqT.of (e1 _ _ hb)) rfl (flat_n s)
    rw [inV_n] at h
    exact et_test (ev_op (ev_var rfl) (ev_var rfl) h)
def sp_every (C : Addr) : Sp := fun vs H Q _ => ∃ (W : Wb) (wv : V), vs = [wv] ∧ WebAt C W wv H ∧ W.ps.length ≤ 40 ∧ Ret H (LotAt (List.range W.ps.length)) Q
theorem rgV_n (n : Nat) : rgV 0 (n : Int) = (List.range n).map nV := by
  unfold rgV
  rw [show ((n : Int) - 0).toNat = n by omega]
  exact List.map_congr_left fun i _ => by rw [Int.zero_add]
theorem evp_tupRg {σ : L2.St} {H : Hp} {te : TE} {n : Nat} (h : Ev te σ H (.int (n : Int))) (hn : n ≤ 1000000) : EvP (tTupRg (tRg1 te)) σ H (LotAt (List.range n)) := fun H1 e1 Q r => h H1 e1 _ fun H2 e2 => ⟨_, rfl, RgOk.of_le (by omega) (by omega) (by omega) (by omega), fun q hq => by
  rw [rgV_n]
  exact r _ _ (e2.trans (Ex.new hq)) (LotAt.sta ⟨q, rfl, upd_same⟩)⟩
theorem ok_every (E : Env K mg) : FnOk P w K mg base CX0 1 E.d_every.f E.d_every.fd ["web"] (sp_every E.CW) := by
  refine E.d_every.F.ok sc_every (fun vs H Q E h => ?_) (fun cdv A outer s H vs Q E' hr h => ?_)
  · obtain ⟨W, wv, rfl, _⟩ := h
    rfl
  · obtain ⟨W, wv, rfl, ⟨x, dx, a, rfl, hx, pvs, ha, hp⟩, h40, k⟩ := h
    refine ⟨_, PSs.nox (pss_one (ps_ret (pe_tupRg rfl rfl E.f_tuple (prg_1 rfl E.f_range (pe_callB call_len_seq (by rfl) E.f_len (by decide +kernel) (pa_cons (pe_fld (pv 0) rfl) pa_nil)))))), ?_⟩
    have hl : W.ps.length = pvs.length := hp.length
    refine s_retP (evp_tupRg (ev_lenS (ev_pieces E (ev_var rfl) hx) (.inr (SqT.of ha))) (by omega)) fun v H1 e1 pv => k v H1 e1 ?_
    rw [hl]
    exact pv
/-- a list of lots -/
def sp_meets_all (K : PySem.W.Frag) : Sp := fun vs H Q _ => ∃ (u : V) (a : Addr) (ys : List V) (l : List Nat) (cs : List (List Nat)) (k : Int), vs = [u, .ref a, .int k] ∧ LotAt l u H ∧ SqL K H a ys ∧ Paired (fun c y => LotAt c y H) cs ys ∧ (∀ c, c ∈ cs → c.length ≤ 40) ∧ cs.length ≤ 16000000 ∧ Ret H (fun x _ => x = .bl (Mth.meets l cs k)) Q
theorem ok_meets_all (E : Env K mg) : FnOk P w K mg base CX0 1 E.d_meets_all.f E.d_meets_all.fd ["lot", "cuts", "k"] (sp_meets_all K) := by
  refine E.d_meets_all.F.ok sc_meets_all (fun vs H Q E h => ?_) (fun cdv A outer s H vs Q E' hr h => ?_)
  · obtain ⟨u, a, ys, l, cs, k, rfl, _⟩ := h
    rfl
  · obtain ⟨u, a, ys, l, cs, k, rfl, ⟨b, rfl, hb⟩, ha, hp, h40, hcs, kk⟩ := h
    refine ⟨_, PSs.nox (pss_one (ps_ret (pe_callB (cr_all rfl) (by rfl) E.f_all (by decide +kernel) (pa_cons (pe_lc (own := [("cut", 4)]) (g := gName 4) rfl sc_meets_all.nd (pi_list (pv 1)) (blkOk_by (N := n_meets_all) (sc := defScope s_meets_all) (by decide +kernel)) (fun _ _ _ _ _ => (pg_name (i := 4) sc_meets_all.nd rfl (by first | exact Or.inl rfl | exact Or.inr rfl))) (fun _ _ _ _ _ => pts_nil) (fun _ _ _ _ _ => (pe_cmpR op_gt (pe_callB (kx_len (K := K) (by rfl)) (by rfl) E.f_len (by decide +kernel) (pa_cons (pe_lc (own := [("piece", 3)]) (g := gName 3) rfl sc_meets_all.nd (kx_pit (K := K) (by rfl) (pv 4)) (blkOk_by (N := n_meets_all) (sc := relS (lcOf (retE (defBody s_meets_all))) (defScope s_meets_all)) (by decide +kernel)) (fun _ _ _ _ _ => (pg_name (i := 3) sc_meets_all.nd rfl (by first | exact Or.inl rfl | exact Or.inr rfl))) (fun _ _ _ _ _ => (pts_one (pt_cmpR (kx_in (K := K) (by rfl)) (pv 3) (pv 0) rfl))) (fun _ _ _ _ _ => (pv 3))) pa_nil)) (pv 2) (nomark _)))) pa_nil)))), ?_⟩
    have hm : Mth.meets l cs k = (cs.map fun c => decide (k < ((c.filter fun a => decide (a ∈ l)).length : Int))).all id := by
      unfold Mth.meets
      rw [List.all_map]
      rfl
    refine s_ret (ev_bl (ev_all (lc_mapR (R := fun c y => LotAt c y H) (ei_list (ev_var rfl) ha) hp V.bl (fun c => decide (k < ((c.filter fun a => decide (a ∈ l)).length : Int))) hcs (fun _ => by rfl) fun c y H1 e1 hc hy => ?_)) hm.symm) fun H1 e1 => kk.val e1
    obtain ⟨q, rfl, hq⟩ := hy
    have hl : (((c.filter fun a => decide (a ∈ l)).map nV).length) = (c.filter fun a => decide (a ∈ l)).length := List.length_map ..
    refine ev_is (ev_op (ev_lenP (lc_fmap (as := c) (rep := nV) (ei_tup (ev_var rfl) (SqT.of (e1 _ _ hq))) (fun i => decide (i ∈ l)) nV (by have := h40 c hc; omega) (fun _ => by rfl) (fun i H2 e2 hi => ?_) fun i H2 e2 hi _ => ev_var rfl)) (ev_var rfl) rv_I0) ?_
    · have h := rv_isT (K := K) (x := nV i) (SqT.of (e2 _ _ (e1 _ _ hb))) rfl (flat_n l)
      rw [inV_n] at h
      exact et_test (ev_op (ev_var rfl) (ev_var rfl) h)
    · rw [hl]
theorem pswap {P : V → List Nat → Prop} {F : Addr → List V → Prop} (hf : ∀ T c, F T (c.map nV) → P (.ref T) c) : ∀ {Ts : List Addr} {cs : List (List Nat)}, Paired F Ts (cs.map (List.map nV)) → Paired (fun c y => P y c) cs (Ts.map V.ref)
  | [], [], _ => .nil
  | _ :: _, _ :: _, .cons h t => .cons (hf _ _ h) (pswap hf t)
def sp_all_lots : Sp := fun vs H Q _ => ∃ n : Nat, vs = [nV n] ∧ n ≤ 12 ∧ Ret H (NewP H (Mth.upto (n + 1) (List.range n)) LotAt) Q
theorem ok_all_lots (E : Env K mg) : FnOk P w K mg base CX0 1 E.d_all_lots.f E.d_all_lots.fd ["many"] sp_all_lots := by
  refine E.d_all_lots.F.ok sc_all_lots (fun vs H Q E h => ?_) (fun cdv A outer s H vs Q E' hr h => ?_)
  · obtain ⟨n, rfl, _⟩ := h
    rfl
  · obtain ⟨n, rfl, hn, k⟩ := h
    refine ⟨_, PSs.nox (pss_cons (ps_set (i := 1) sc_all_lots.nd rfl (by first | exact Or.inl rfl | exact Or.inr rfl) (pe_lst pa_nil)) (pss_cons (ps_for PassesOwn.never rfl (pi_range1 rfl E.f_range (pa_cons (pe_op op_add (pv 0) pe_int) pa_nil)) (pg_name (i := 2) sc_all_lots.nd rfl (by first | exact Or.inl rfl | exact Or.inr rfl)) (pss_one (ps_expr (pe_bm PySem.F.plainAttrs_list PySem.F.slot_list_extend PySem.F.type_list_extend mt_extend (pv 1) (pa_cons (Cb.pe_listComb rfl rfl E.f_list rfl E.g_combinations (pa_cons (pe_listRg rfl rfl E.f_list (prg_1 rfl E.f_range (pv 0))) (pa_cons (pv 2) pa_nil))) pa_nil))))) (pss_one (ps_ret (pv 1))))), ?_⟩
    refine ⟨Nat.zero_le _, fun fd nfd => ?_⟩
    refine q_forR1 (n := ((n : Int) + 1)) (ea_cons (ev_op (ev_var rfl) ev_c rv_I0) ea_nil) ⟨by omega, by omega⟩ (fun i σ H' => ∃ u, σ = [some (nV n), some (.ref fd), u] ∧ Ex H H' ∧ ∃ ys, H' fd = some (.lst ys) ∧ Paired (fun c y => LotAt c y H') (Mth.upto i (List.range n)) ys) (fun H1 e1 => ⟨none, rfl, (Ex.new nfd).trans e1, [], e1 _ _ upd_same, .nil⟩) (fun i σ H' hi h => ?_) fun σ H' h => ?_
    · obtain ⟨u, rfl, e1, ys, hfd, hp⟩ := h
      have hc := Mth.combs_len i (List.range n)
      have hu := Mth.upto_len i (List.range n)
      rw [List.length_range] at hc hu
      have h2 : 2 ^ n ≤ 4096 := Nat.le_trans (Nat.pow_le_pow_right (by decide) hn) (by decide)
      have h3 : i * 2 ^ n ≤ 13 * 4096 := Nat.mul_le_mul (by omega) h2
      have hpl := hp.length
      refine ⟨_, rfl, .inl ⟨rfl, _, SqL.of hfd⟩, _, rfl, (n : Int), rfl, RgOk.of_le (by omega) (by omega) (by omega) (by omega), fun q hq => ⟨_, rfl, q, rgV 0 (n : Int), i, rfl, .inl (SqL.of upd_same), by rw [rgV_length]; omega, by omega, ?_, fun H2 l2 Ts e2 nl2 hl2 hT => ?_⟩⟩
      · rw [rgV_n, Mth.combs_map, List.length_map]
        omega
      · have eq1 : Ex H' (upd H' q (.lst (rgV 0 (n : Int)))) := Ex.new hq
        have E2 : Ex H' H2 := eq1.trans e2
        have hfd2 : H2 fd = some (.lst ys) := E2 _ _ hfd
        have hTl := hT.length
        rw [rgV_n, Mth.combs_map] at hT hTl
        rw [List.length_map] at hTl
        refine ⟨fd, l2, ys, Ts.map V.ref, rfl, rfl, hfd2, hl2, ?_, ?_⟩
        · rw [List.length_map, ← hpl, hTl, sizeLine_eq]
          omega
        · have eT : ExT H2 (upd H2 fd (.lst (ys ++ Ts.map V.ref))) := (ExT.refl H2).mut hfd2 rfl
          refine ⟨_, rfl, Ex.mut (e1.trans E2) nfd, _, upd_same, ?_⟩
          rw [Mth.upto_succ]
          refine paired_app (hp.mono fun c y h => h.t ((Ex.t E2).trans eT)) ?_
          exact pswap (P := fun y c => LotAt c y (upd H2 fd (.lst (ys ++ Ts.map V.ref)))) (fun T c h => ⟨T, rfl, eT _ _ h rfl⟩) hT
    · obtain ⟨u, rfl, e1, ys, hfd, hp⟩ := h
      refine ⟨_, rfl, k _ H' e1 (NewP.sta (fun c y H1 H2 e h => LotAt.t e h) ⟨fd, ys, rfl, nfd, hfd, ?_⟩)⟩
      rw [show ((n : Int) + 1).toNat = n + 1 by omega] at hp
      exact hp
end
end Wk
end

section
set_option Elab.async false
set_option linter.all false
set_option maxRecDepth 100000
set_option maxHeartbeats 2000000
namespace Wk
open PySem PySem.Spec PyProof.Rows L2 Evl Rk
section
variable {K : PySem.W.Frag} {base : Heap} {mg : Str → Option Value} {P : Program} {w : World}
theorem WebAt.prime (E : Env K mg) {σ : L2.St} {H : Hp} {tw : TE} {W : Wb} {wv : V} (h : Ev tw σ H wv) (ho : WebAt E.CW W wv H) : Ev (tFld K tw "prime") σ H (.int W.p) := by
  obtain ⟨x, dx, a, rfl, hx, _⟩ := ho
  exact ev_fld h hx E.k_Web E.a_prime (wfs_prime _ _ _)
theorem WebAt.many (E : Env K mg) {σ : L2.St} {H : Hp} {tw : TE} {W : Wb} {wv : V} (h : Ev tw σ H wv) (ho : WebAt E.CW W wv H) : Ev (tFld K tw "many") σ H (nV W.n) := by
  obtain ⟨x, dx, a, rfl, hx, _⟩ := ho
  exact ev_fld h hx E.k_Web E.a_many (wfs_many _ _ _)
def sp_steps_in (C CS : Addr) : Sp := fun vs H Q _ => ∃ (W : Wb) (wv v : V) (l : List Nat), vs = [wv, v] ∧ WebAt C W wv H ∧ Wok W ∧ LotAt l v H ∧ In W l ∧ Ret H (fun u H' => ∃ x dx, u = .ref x ∧ SelfInv CS x dx W.p W.n (W.rows l) H') Q
theorem ok_steps_in (E : Env K mg) : FnOk P w K mg base CX0 5 E.d_steps_in.f E.d_steps_in.fd ["web", "lot"] (sp_steps_in E.CW E.CS) := by
  refine E.d_steps_in.F.ok sc_steps_in (fun vs H Q E h => ?_) (fun cdv A outer s H vs Q E' hr h => ?_)
  · obtain ⟨W, wv, v, l, rfl, _⟩ := h
    rfl
  · obtain ⟨W, wv, v, l, rfl, hw, ok, ⟨b, rfl, hb⟩, hin, k⟩ := h
    refine ⟨_, PSs.nox (pss_cons (ps_set (i := 2) sc_steps_in.nd rfl (by first | exact Or.inl rfl | exact Or.inr rfl) (pe_make E.mk_Steps (ok_Steps_init E) (hr.mono (by decide)) rfl E.g_Steps E.i_Steps.b .nil pass0 (pa_cons (pe_fld (pv 0) rfl) pa_nil))) (pss_cons (ps_for PassesOwn.never rfl (pi_tup (pv 1)) (pg_name (i := 3) sc_steps_in.nd rfl (by first | exact Or.inl rfl | exact Or.inr rfl)) (pss_one (ps_expr (pe_meth (pv 2) E.k_Steps E.M_take (ok_Steps_take E) (hr.mono (by decide)) E.m_take.b .nil pass0 (pa_cons (pv 3) (pa_cons (pe_ix ix_tup (pe_ix ix_tup (pe_fld (pv 0) rfl) (pv 3) (fun _ _ => rfl)) pe_int (fun _ _ => rfl)) pa_nil)))))) (pss_one (ps_ret (pv 2))))), ?_⟩
    obtain ⟨wx, wdx, pa, rfl, hwx, hps⟩ := hw
    refine ⟨_, rfl, wx, E.CW, wdx, wfs W.p W.n pa, .int W.p, rfl, hwx, E.k_Web, E.a_prime, wfs_prime _ _ _, fun x dx nx ndx nex => ⟨x, dx, W.p, rfl, upd_same, fun H1 kd k1 nkd hx1 hkd1 => ⟨rfl, ?_⟩⟩⟩
    have e1 : Ex H H1 := fun a o ha => k1 _ _ (ne_of_none ha nx) (by rw [upd_ne (ne_of_none ha nx), upd_ne (ne_of_none ha ndx)]; exact ha)
    refine ⟨_, rfl, b, rfl, ⟨_, SqT.of (e1 _ _ hb)⟩, for_tup (xs := l.map nV) (fun i σ H' => ∃ u, σ = [some (.ref wx), some (.ref b), some (.ref x), u] ∧ Ex H H' ∧ SelfInv E.CS x dx W.p W.n (W.rows (l.take i)) H') ⟨none, rfl, e1, kd, [], [], hx1, hkd1, .nil, Mth.RF.nil, Mth.Same.nil⟩ (fun i σ H' _ h => ?_) (fun i y σ H' hi h => ?_) fun σ H' h => ?_⟩
    · obtain ⟨_, _, e, _⟩ := h
      exact SqT.of (e _ _ hb)
    · obtain ⟨u, rfl, e, inv⟩ := h
      rw [List.getElem?_map] at hi
      cases hli : l[i]? with
      | none =>
        rw [hli] at hi
        cases hi
      | some j =>
        rw [hli] at hi
        obtain rfl : nV j = y := Option.some.inj hi
        have hj : j < W.ps.length := hin j (List.mem_of_getElem? hli)
        obtain ⟨pvs, pv, h1, h2, t, a, rfl, h3, h4⟩ := hps.at hj
        have htk : l.take (i + 1) = l.take i ++ [j] := take_succ_of hli
        have hpc := ok.pc hj
        obtain ⟨kd', kvs', kept', s1, s2, s3, s4, s5⟩ := inv
        have := ok.len
        refine ⟨_, rfl, x, dx, _, rfl, s1, sfs_no _ _ (by decide) (by decide), _, rfl, _, rfl, wx, E.CW, wdx, wfs W.p W.n pa, .ref pa, rfl, e _ _ hwx, E.k_Web, E.a_pieces, wfs_pieces _ _ _, _, rfl, pa, pvs, (j : Int), _, rfl, rfl, SqT.of (e _ _ h1), h2, t, _, 0, _, rfl, rfl, SqT.of (e _ _ h3), atI_nat (j := 0) rfl, x, dx, a, W.p, W.n, j, W.rows (l.take i), (W.pc j).1, rfl, ⟨kd', kvs', kept', s1, s2, s3, s4, s5⟩, e _ _ h4, hpc.row, by omega, ok.inv, ok.p2, ok.p251, ok.n10, fun v2 H2 k2 inv2 => ?_⟩
        refine ⟨_, rfl, fun b' o hb' => k2 _ _ (ne_of_none hb' nx) (e _ _ hb'), ?_⟩
        rw [htk]
        unfold Wb.rows
        rw [List.map_append]
        exact inv2
    · obtain ⟨u, rfl, e, inv⟩ := h
      rw [List.length_map, List.take_length] at inv
      exact ⟨_, rfl, k _ _ e fun H2 e2 => ⟨x, dx, rfl, inv.on e2⟩⟩
def sp_rank_in (C : Addr) : Sp := fun vs H Q _ => ∃ (W : Wb) (wv v : V) (l : List Nat), vs = [wv, v] ∧ WebAt C W wv H ∧ Wok W ∧ LotAt l v H ∧ In W l ∧ Ret H (fun u _ => ∃ r : Nat, u = nV r ∧ (r = W.n ↔ Mth.Full W.p W.n (W.rows l))) Q
theorem ok_rank_in (E : Env K mg) : FnOk P w K mg base CX0 6 E.d_rank_in.f E.d_rank_in.fd ["web", "lot"] (sp_rank_in E.CW) := by
  refine E.d_rank_in.F.ok sc_rank_in (fun vs H Q E h => ?_) (fun cdv A outer s H vs Q E' hr h => ?_)
  · obtain ⟨W, wv, v, l, rfl, _⟩ := h
    rfl
  · obtain ⟨W, wv, v, l, rfl, hw, ok, hl, hin, k⟩ := h
    refine ⟨_, PSs.nox (pss_one (ps_ret (pe_callB call_lenD (by rfl) E.f_len (by decide +kernel) (pa_cons (pe_fld (pe_call (ok_steps_in E) (hr.mono (by decide)) rfl E.d_steps_in.g E.d_steps_in.F.kp E.d_steps_in.b .nil pass0 (pa_cons (pv 0) (pa_cons (pv 1) pa_nil))) rfl) pa_nil)))), ?_⟩
    refine ⟨_, rfl, _, rfl, W, wv, v, l, rfl, hw, ok, hl, hin, fun u H1 e1 pu => ?_⟩
    obtain ⟨x, dx, rfl, kd, kvs, kept, h1, h2, h3, rf, sm⟩ := pu.now
    refine ⟨x, E.CS, dx, _, .ref kd, rfl, h1, E.k_Steps, E.a_kept_rows, sfs_rows _ _, kd, kvs, rfl, h2, k _ H1 e1 fun _ _ => ⟨kvs.length, rfl, ?_⟩⟩
    rw [← h3.length, Mth.stair_full ok.p2 rf.stair]
    exact sm.full.symm
def sp_spans_all (C : Addr) : Sp := fun vs H Q _ => ∃ (W : Wb) (wv v : V) (l : List Nat), vs = [wv, v] ∧ WebAt C W wv H ∧ Wok W ∧ LotAt l v H ∧ In W l ∧ Ret H (fun u _ => u = .bl (W.F l)) Q
theorem ok_spans_all (E : Env K mg) : FnOk P w K mg base CX0 7 E.d_spans_all.f E.d_spans_all.fd ["web", "lot"] (sp_spans_all E.CW) := by
  refine E.d_spans_all.F.ok sc_spans_all (fun vs H Q E h => ?_) (fun cdv A outer s H vs Q E' hr h => ?_)
  · obtain ⟨W, wv, v, l, rfl, _⟩ := h
    rfl
  · obtain ⟨W, wv, v, l, rfl, hw, ok, hl, hin, k⟩ := h
    refine ⟨_, PSs.nox (pss_one (ps_ret (pe_cmpR op_eq (pe_call (ok_rank_in E) (hr.mono (by decide)) rfl E.d_rank_in.g E.d_rank_in.F.kp E.d_rank_in.b .nil pass0 (pa_cons (pv 0) (pa_cons (pv 1) pa_nil))) (pe_fld (pv 0) rfl) (nomark _)))), ?_⟩
    refine s_retP (evp_opP (ev_callA (P := fun u _ => ∃ r : Nat, u = nV r ∧ (r = W.n ↔ Mth.Full W.p W.n (W.rows l))) (ea_cons (ev_var rfl) (ea_cons (ev_var rfl) ea_nil)) fun H1 e1 Q1 r1 => ⟨W, wv, v, l, rfl, hw.on e1, ok, hl.t (Ex.t e1), hin, r1⟩) (hw.many E (ev_var rfl)) fun u H1 e1 pu Q1 r1 => ?_) k
    obtain ⟨r, rfl, hr2⟩ := pu.now
    refine ⟨rfl, ?_⟩
    have e : decide (nV r = nV W.n) = W.F l := by
      by_cases hF : W.F l = true
      · rw [hF, decide_eq_true]
        rw [hr2.mpr ((W.F_iff l).mp hF)]
      · rw [Bool.not_eq_true] at hF
        rw [hF, decide_eq_false]
        intro z
        have z2 : (r : Int) = (W.n : Int) := V.int.inj z
        have z3 : r = W.n := by omega
        rw [(W.F_iff l).mpr (hr2.mp z3)] at hF
        cases hF
    rw [e]
    exact r1.val (Ex.refl _)
def sp_harms_of (C : Addr) : Sp := fun vs H Q _ => ∃ (W : Wb) (wv v : V) (l : List Nat), vs = [wv, v] ∧ WebAt C W wv H ∧ Wok W ∧ LotAt l v H ∧ In W l ∧ l.length ≤ 12 ∧ Ret H (NewP H (Mth.harmsL W.F l) LotAt) Q
theorem fold_len (F : List Nat → Bool) (l : List Nat) (i : Nat) : ((Mth.upto i l).foldl (Mth.scan F l) []).length ≤ i * 2 ^ l.length := by
  have h := Mth.scan_len F l (Mth.upto i l) []
  rw [List.length_nil, Nat.zero_add] at h
  exact Nat.le_trans h (Mth.upto_len i l)
theorem ok_harms_of (E : Env K mg) : FnOk P w K mg base CX0 8 E.d_harms_of.f E.d_harms_of.fd ["web", "lot"] (sp_harms_of E.CW) := by
  refine E.d_harms_of.F.ok sc_harms_of (fun vs H Q E h => ?_) (fun cdv A outer s H vs Q E' hr h => ?_)
  · obtain ⟨W, wv, v, l, rfl, _⟩ := h
    rfl
  · obtain ⟨W, wv, v, l, rfl, hw, ok, ⟨b, rfl, hb⟩, hin, h12, k⟩ := h
    have hbb := hb
    refine ⟨_, PSs.nox (pss_cons (ps_set (i := 2) sc_harms_of.nd rfl (by first | exact Or.inl rfl | exact Or.inr rfl) (pe_lst pa_nil)) (pss_cons (ps_for PassesOwn.never rfl (pi_range1 rfl E.f_range (pa_cons (pe_op op_add (pe_callB call_len_seq (by rfl) E.f_len (by decide +kernel) (pa_cons (pv 1) pa_nil)) pe_int) pa_nil)) (pg_name (i := 3) sc_harms_of.nd rfl (by first | exact Or.inl rfl | exact Or.inr rfl)) (pss_one (ps_for PassesOwn.never rfl (Cb.pi_comb rfl E.g_combinations (pa_cons (pv 1) (pa_cons (pv 3) pa_nil))) (pg_name (i := 4) sc_harms_of.nd rfl (by first | exact Or.inl rfl | exact Or.inr rfl)) (pss_one (ps_if (pt_not (pt_val (pe_callB (cr_any rfl) (by rfl) E.f_any (by decide +kernel) (pa_cons (pe_lc (own := [("harm", 6)]) (g := gName 6) rfl sc_harms_of.nd (pi_list (pv 2)) (blkOk_by (N := n_harms_of) (sc := defScope s_harms_of) (by decide +kernel)) (fun _ _ _ _ _ => (pg_name (i := 6) sc_harms_of.nd rfl (by first | exact Or.inl rfl | exact Or.inr rfl))) (fun _ _ _ _ _ => pts_nil) (fun _ _ _ _ _ => (pe_callB (kx_all (K := K) (by rfl) rfl) (by rfl) E.f_all (by decide +kernel) (pa_cons (pe_lc (own := [("piece", 5)]) (g := gName 5) rfl sc_harms_of.nd (kx_pit (K := K) (by rfl) (pv 6)) (blkOk_by (N := n_harms_of) (sc := relS (lcOf (harmsE (defBody s_harms_of))) (defScope s_harms_of)) (by decide +kernel)) (fun _ _ _ _ _ => (pg_name (i := 5) sc_harms_of.nd rfl (by first | exact Or.inl rfl | exact Or.inr rfl))) (fun _ _ _ _ _ => pts_nil) (fun _ _ _ _ _ => (pe_cmpR (kx_in (K := K) (by rfl)) (pv 5) (pv 4) rfl))) pa_nil)))) pa_nil)))) (pss_one (ps_if (pt_not (pt_val (pe_call (ok_spans_all E) (hr.mono (by decide)) rfl E.d_spans_all.g E.d_spans_all.F.kp E.d_spans_all.b .nil pass0 (pa_cons (pv 0) (pa_cons (pe_call (ok_left_of E) (hr.mono (by decide)) rfl E.d_left_of.g E.d_left_of.F.kp E.d_left_of.b .nil pass0 (pa_cons (pv 1) (pa_cons (pv 4) pa_nil))) pa_nil))))) (pss_one (ps_expr (pe_bm PySem.F.plainAttrs_list PySem.F.slot_list_append PySem.F.type_list_append mt_append (pv 2) (pa_cons (pv 4) pa_nil)))) pss_nil)) pss_nil))))) (pss_one (ps_ret (pv 2))))), ?_⟩
    refine ⟨Nat.zero_le _, fun fd nfd => ?_⟩
    have e0 : Ex H (upd H fd (.lst [])) := Ex.new nfd
    have h2 : 2 ^ l.length ≤ 4096 := Nat.le_trans (Nat.pow_le_pow_right (by decide) h12) (by decide)
    have hlm : (l.map nV).length = l.length := List.length_map ..
    refine q_forR1 (n := ((l.length : Int) + 1)) (ea_cons (ev_op (ev_lenS (ev_var rfl) (.inr (SqT.of (e0 _ _ hb)))) ev_c (by rw [hlm]; exact rv_I0)) ea_nil) ⟨by omega, by omega⟩ (fun i σ H' => ∃ u3 u4 u5 u6, σ = [some wv, some (.ref b), some (.ref fd), u3, u4, u5, u6] ∧ Ex H H' ∧ ∃ ys, H' fd = some (.lst ys) ∧ Paired (fun c y => LotAt c y H') ((Mth.upto i l).foldl (Mth.scan W.F l) []) ys)
      (fun H1 e1 => ⟨none, none, none, none, rfl, e0.trans e1, [], e1 _ _ upd_same, .nil⟩) (fun i σ H' hi h => ?_) fun σ H' h => ?_
    · obtain ⟨u3, u4, u5, u6, rfl, e1, ys, hfd, hp⟩ := h
      refine ⟨_, rfl, _, rfl, b, l.map nV, i, rfl, .inr (SqT.of (e1 _ _ hb)), by omega, by omega, for_it (Cb.walk_comb (xs := l.map nV) (r := i)) (fun j σ H' => ∃ u4 u5 u6, σ = [some wv, some (.ref b), some (.ref fd), some (nV i), u4, u5, u6] ∧ Ex H H' ∧ ∃ ys, H' fd = some (.lst ys) ∧ Paired (fun c y => LotAt c y H') (((Mth.combs i l).take j).foldl (Mth.scan W.F l) ((Mth.upto i l).foldl (Mth.scan W.F l) [])) ys)
        ⟨u4, u5, u6, rfl, e1, ys, hfd, hp⟩ (fun j σ H' _ h => trivial) (fun j y σ H' H'' hj h hy => ?_) fun σ H' h => ?_⟩
      · obtain ⟨u4, u5, u6, rfl, e2, ys, hfd, hp⟩ := h
        obtain ⟨T, xs, rfl, nT, hxs, rfl⟩ := hy
        rw [Mth.combs_map, List.getElem?_map] at hxs
        cases hcj : (Mth.combs i l)[j]? with
        | none =>
          rw [hcj] at hxs
          cases hxs
        | some c =>
          rw [hcj] at hxs
          obtain rfl : c.map nV = xs := Option.some.inj hxs
          have htk : (Mth.combs i l).take (j + 1) = (Mth.combs i l).take j ++ [c] := take_succ_of hcj
          have hcm : c ∈ Mth.combs i l := List.mem_of_getElem? hcj
          obtain ⟨hsub, hcl⟩ := Mth.mem_combs.mp hcm
          generalize hacc : ((Mth.combs i l).take j).foldl (Mth.scan W.F l) ((Mth.upto i l).foldl (Mth.scan W.F l) []) = acc at hp
          have hacc2 : ((Mth.combs i l).take (j + 1)).foldl (Mth.scan W.F l) ((Mth.upto i l).foldl (Mth.scan W.F l) []) = Mth.scan W.F l acc c := by
            rw [htk, List.foldl_append, hacc]
            rfl
          have hlen : acc.length ≤ 60000 := by
            have q1 := Mth.scan_len W.F l ((Mth.combs i l).take j) ((Mth.upto i l).foldl (Mth.scan W.F l) [])
            have q2 := fold_len W.F l i
            have q3 := Mth.combs_len i l
            have q4 : i * 2 ^ l.length ≤ 13 * 4096 := Nat.mul_le_mul (by omega) h2
            rw [hacc, List.length_take] at q1
            omega
          have eT : Ex H' (upd H' T (.tup (c.map nV))) := Ex.new nT
          have E3 := e2.trans eT
          have hfd3 := eT _ _ hfd
          have hT3 : (upd H' T (.tup (c.map nV))) T = some (.tup (c.map nV)) := upd_same
          generalize hH3 : upd H' T (.tup (c.map nV)) = H3 at eT E3 hfd3 hT3
          have hp4 : Paired (fun c y => LotAt c y H3) acc ys := hp.mono fun _ _ q => q.t (Ex.t eT)
          have hsubs : ∀ h, h ∈ acc → h.length ≤ 12 := fun h hh => by
            rw [← hacc] at hh
            rcases Mth.mem_fold W.F l hh with m | m
            · rcases Mth.mem_fold W.F l m with m | m
              · cases m
              · exact Nat.le_trans (Mth.mem_upto.mp m).1.length_le h12
            · exact Nat.le_trans (Mth.mem_combs.mp (List.mem_of_mem_take m)).1.length_le h12
          have hin2 : In W (Mth.left l c) := fun a ha => hin a (List.mem_filter.mp ha).1
          refine s_when (b := !Mth.hitB acc c) (et_not (et_B (ev_bl (ev_any (lc_mapR (R := fun h y => LotAt h y H3) (ei_list (ev_var rfl) (SqL.of hfd3)) hp4 V.bl (fun h => h.all fun a => decide (a ∈ c)) (by omega) (fun _ => by rfl) fun h y H4 e4 hh hy => ?_)) ?_))) (fun hb H4 e4 => ?_) fun hb H4 e4 => ?_
          · obtain ⟨q, rfl, hq⟩ := hy
            refine ev_bl (ev_all (lc_mapW (as := h) (rep := nV) (ei_tup (ev_var rfl) (SqT.of (e4 _ _ hq))) V.bl (fun a => decide (a ∈ c)) ?_ (fun _ => by rfl) fun a H5 e5 ha => ?_)) ?_
            · have := hsubs h hh
              omega
            · have h := rv_isT (K := K) (x := nV a) (SqT.of (e5 _ _ (e4 _ _ hT3))) rfl (flat_n c)
              rw [inV_n] at h
              exact ev_op (ev_var rfl) (ev_var rfl) h
            · rw [List.all_map]
              rfl
          · unfold Mth.hitB
            rw [List.any_map]
            rfl
          · rw [Bool.not_eq_true'] at hb
            have E4 : Ex H H4 := E3.trans e4
            refine s_when (b := !W.F (Mth.left l c)) (et_not (et_B (EvP.ev (fun H5 e5 Q5 r5 => ⟨_, rfl, _, rfl, _, rfl, .ref b, .ref T, l, c, rfl, ⟨b, rfl, e5 _ _ (E4 _ _ hbb)⟩, ⟨T, rfl, e5 _ _ (e4 _ _ hT3)⟩, by omega, fun lv H6 e6 plv => ⟨W, wv, lv, _, rfl, hw.on (E4.trans (e5.trans e6)), ok, plv.now, hin2, r5.back e6⟩⟩)))) (fun hb2 H5 e5 => ?_) fun hb2 H5 e5 => ?_
            · rw [Bool.not_eq_true'] at hb2
              have hfd5 := e5 _ _ (e4 _ _ hfd3)
              refine s_app hfd5 (ev_var rfl) (ev_var rfl) (by have := hp4.length; omega) fun H6 e6 => ?_
              have hfd6 := e6 _ _ hfd5
              have eT6 : ExT H3 (upd H6 fd (.lst (ys ++ [.ref T]))) := (Ex.t ((e4.trans e5).trans e6)).mut hfd6 rfl
              refine ⟨_, _, _, rfl, Ex.mut ((E4.trans e5).trans e6) nfd, _, upd_same, ?_⟩
              rw [hacc2, show Mth.scan W.F l acc c = acc ++ [c] by unfold Mth.scan; rw [hb, hb2]; rfl]
              exact paired_app (hp4.mono fun _ _ q => q.t eT6) (.cons ⟨T, rfl, eT6 _ _ hT3 rfl⟩ .nil)
            · rw [Bool.not_eq_false'] at hb2
              refine ⟨_, _, _, rfl, E4.trans e5, ys, e5 _ _ (e4 _ _ hfd3), ?_⟩
              rw [hacc2, show Mth.scan W.F l acc c = acc by unfold Mth.scan; rw [hb, hb2]; rfl]
              exact hp4.mono fun _ _ q => q.t (Ex.t (e4.trans e5))
          · rw [Bool.not_eq_false'] at hb
            refine ⟨_, _, _, rfl, E3.trans e4, ys, e4 _ _ hfd3, ?_⟩
            rw [hacc2, show Mth.scan W.F l acc c = acc by unfold Mth.scan; rw [hb]; rfl]
            exact hp4.mono fun _ _ q => q.t (Ex.t e4)
      · obtain ⟨u4, u5, u6, rfl, e2, ys, hfd, hp⟩ := h
        refine ⟨_, _, _, _, rfl, e2, ys, hfd, ?_⟩
        rw [Mth.combs_map, List.length_map, List.take_length] at hp
        rw [Mth.upto_succ, List.foldl_append]
        exact hp
    · obtain ⟨u3, u4, u5, u6, rfl, e1, ys, hfd, hp⟩ := h
      refine ⟨_, rfl, k _ H' e1 (NewP.sta (fun c y H1 H2 e h => LotAt.t e h) ⟨fd, ys, rfl, nfd, hfd, ?_⟩)⟩
      rw [show ((l.length : Int) + 1).toNat = l.length + 1 by omega] at hp
      exact hp
end
end Wk
end

section
set_option Elab.async false
set_option linter.all false
set_option maxRecDepth 100000
set_option maxHeartbeats 2000000
namespace Wk
open PySem PySem.Spec PyProof.Rows L2 Evl Rk
section
variable {K : PySem.W.Frag} {base : Heap} {mg : Str → Option Value} {P : Program} {w : World}
/-! ### what may be raised -/
def sp_check_lot (C CL : Addr) : Sp := fun vs H Q E => ∃ (W : Wb) (wv v : V) (b : Bool), vs = [wv, v] ∧ WebAt C W wv H ∧ LotB H v (W.ps.length : Int) b ∧ (b = true → Ret H (fun x _ => x = .non) Q) ∧ (b = false → ∀ H', Ex H H' → E (.ref CL) none H')
theorem ok_check_lot (E : Env K mg) : FnOk P w K mg base (L2.CX P w) 5 E.d_check_lot.f E.d_check_lot.fd ["web", "lot"] (sp_check_lot E.CW E.CL) := by
  refine E.d_check_lot.F.ok sc_check_lot (fun vs H Q E h => ?_) (fun cdv A outer s H vs Q E' hr h => ?_)
  · obtain ⟨W, wv, v, b, rfl, _⟩ := h
    rfl
  · obtain ⟨W, wv, v, b, rfl, hw, hb, k1, k2⟩ := h
    refine ⟨_, (pss_one (ps_if (pt_not (pt_val (pe_call (ok_is_lot_of E) (hr.mono (by decide)) rfl E.d_is_lot_of.g E.d_is_lot_of.F.kp E.d_is_lot_of.b .nil pass0 (pa_cons (pv 0) (pa_cons (pv 1) pa_nil))))) (pss_one (ps_raise rfl (takes_of rfl rfl rfl rfl) (Tm.pmk_own0 PySem.F.excBase_ValueError E.e_NoLot.ex E.e_NoLot.g E.e_NoLot.kp (raises_own E.e_NoLot.bs E.e_NoLot.ty) rfl))) pss_nil)), ?_⟩
    refine s_when (b := !b) (et_not (et_B (ev_callV (ea_cons (ev_var rfl) (ea_cons (ev_var rfl) ea_nil)) fun H1 e1 Q1 r1 => ⟨W, wv, v, b, rfl, hw.on e1, hb.on e1, r1⟩))) (fun h H1 e1 => ?_) fun h H1 e1 => ?_
    · rw [Bool.not_eq_true'] at h
      exact k2 h H1 e1
    · rw [Bool.not_eq_false'] at h
      exact (k1 h).val e1
def sp_check_safe (CN : Addr) : Sp := fun vs H Q E => ∃ (v : V), vs = [v] ∧ Th H v ∧ (isIn v 0 12 = true → Ret H (fun x _ => x = .non) Q) ∧ (isIn v 0 12 = false → ∀ H', Ex H H' → E (.ref CN) none H')
theorem ok_check_safe (E : Env K mg) : FnOk P w K mg base (L2.CX P w) 3 E.d_check_safe.f E.d_check_safe.fd ["thing"] (sp_check_safe E.CN) := by
  refine E.d_check_safe.F.ok sc_check_safe (fun vs H Q E h => ?_) (fun cdv A outer s H vs Q E' hr h => ?_)
  · obtain ⟨v, rfl, _⟩ := h
    rfl
  · obtain ⟨v, rfl, hv, k1, k2⟩ := h
    refine ⟨_, (pss_one (ps_if (pt_not (pt_val (pe_call (ok_is_within E) (hr.mono (by decide)) rfl E.d_is_within.g E.d_is_within.F.kp E.d_is_within.b .nil pass0 (pa_cons (pv 0) (pa_cons pe_int (pa_cons (pe_glob (v := .int 12) rfl E.c_MOST_SAFE.h ⟨_, rfl⟩) pa_nil)))))) (pss_one (ps_raise rfl (takes_of rfl rfl rfl rfl) (Tm.pmk_own0 PySem.F.excBase_ValueError E.e_NoNumber.ex E.e_NoNumber.g E.e_NoNumber.kp (raises_own E.e_NoNumber.bs E.e_NoNumber.ty) rfl))) pss_nil)), ?_⟩
    refine s_when (b := !isIn v 0 12) (et_not (et_B (ev_within (lo := 0) (hi := 12) (ea_cons (ev_var rfl) (ea_cons ev_c (ea_cons ev_c ea_nil))) hv rfl))) (fun h H1 e1 => ?_) fun h H1 e1 => ?_
    · rw [Bool.not_eq_true'] at h
      exact k2 h H1 e1
    · rw [Bool.not_eq_false'] at h
      exact (k1 h).val e1
/-- TooMany(12) goes out -/
def Out (CM : Addr) (H : Hp) (E : XK) : Prop := ∀ H' d, Ex H H' → H d = none → H' d = some (.xd [(("most" : Str), V.int 12)]) → E (.ref CM) (some d) H'
theorem Out.back {CM : Addr} {H H1 : Hp} {E : XK} (o : Out CM H E) (e : Ex H H1) : Out CM H1 E := fun H' d e2 hd h => o H' d (e.trans e2) (fresh_back e hd) h
def sp_check_few (CM : Addr) : Sp := fun vs H Q E => ∃ (v : V) (l : List Nat), vs = [v] ∧ LotAt l v H ∧ (l.length ≤ 12 → Ret H (fun x _ => x = .non) Q) ∧ (12 < l.length → Out CM H E)
theorem ok_check_few (E : Env K mg) (TM : Tm.Txt P K mg E.CM E.fM) : FnOk P w K mg base (L2.CX P w) 3 E.d_check_few.f E.d_check_few.fd ["lot"] (sp_check_few E.CM) := by
  refine E.d_check_few.F.ok sc_check_few (fun vs H Q E h => ?_) (fun cdv A outer s H vs Q E' hr h => ?_)
  · obtain ⟨v, l, rfl, _⟩ := h
    rfl
  · obtain ⟨v, l, rfl, ⟨a, rfl, ha⟩, k1, k2⟩ := h
    refine ⟨_, (pss_one (ps_if (pt_cmpR op_gt (pe_callB call_len_seq (by rfl) E.f_len (by decide +kernel) (pa_cons (pv 0) pa_nil)) (pe_glob (v := .int 12) rfl E.c_MOST_FEW.h ⟨_, rfl⟩) (nomark _)) (pss_one (ps_raise rfl (takes_of rfl rfl rfl rfl) (Tm.pmk_tm TM hr (pa_cons (pe_glob (v := .int 12) rfl E.c_MOST_FEW.h ⟨_, rfl⟩) pa_nil)))) pss_nil)), ?_⟩
    have hl : (l.map nV).length = l.length := List.length_map ..
    refine s_when (b := decide (12 < l.length)) (et_test (ev_op (ev_lenS (ev_var rfl) (.inr (SqT.of ha))) ev_c (rv_b ?_))) (fun h H1 e1 => ?_) fun h H1 e1 => ?_
    · rw [hl]
      refine congrArg V.bl ?_
      by_cases h : 12 < l.length
      · rw [decide_eq_true h, decide_eq_true (by omega)]
      · rw [decide_eq_false h, decide_eq_false (by omega)]
    · exact ⟨_, rfl, fun d hd => k2 (of_decide_eq_true h) _ d (e1.trans (Ex.new hd)) (fresh_back e1 hd) upd_same⟩
    · exact (k1 (by have := of_decide_eq_false h; omega)).val e1
/-- a lot of the web -/
structure LotOk (W : Wb) (l : List Nat) : Prop where
  inn : In W l
  up : l.Pairwise (· < ·)
theorem LotOk.b {W : Wb} {l : List Nat} {v : V} {H : Hp} (o : LotOk W l) (h : LotAt l v H) : LotB H v (W.ps.length : Int) true := by
  obtain ⟨a, rfl, ha⟩ := h
  refine .inl ⟨a, _, rfl, ha, fun x hx => ?_, ?_⟩
  · obtain ⟨i, _, rfl⟩ := List.mem_map.mp hx
    exact .int _
  · exact (lotB_lot o.up (fun i hi => by have := o.inn i hi; omega) fun i _ => by omega).symm
def sp_harms (C CM : Addr) : Sp := fun vs H Q E => ∃ (W : Wb) (wv v : V) (l : List Nat), vs = [wv, v] ∧ WebAt C W wv H ∧ Wok W ∧ LotAt l v H ∧ LotOk W l ∧ (l.length ≤ 12 → Ret H (NewP H (Mth.harmsL W.F l) LotAt) Q) ∧ (12 < l.length → Out CM H E)
theorem ok_harms (E : Env K mg) (TM : Tm.Txt P K mg E.CM E.fM) : FnOk P w K mg base (L2.CX P w) 9 E.d_harms.f E.d_harms.fd ["web", "lot"] (sp_harms E.CW E.CM) := by
  refine E.d_harms.F.ok sc_harms (fun vs H Q E h => ?_) (fun cdv A outer s H vs Q E' hr h => ?_)
  · obtain ⟨W, wv, v, l, rfl, _⟩ := h
    rfl
  · obtain ⟨W, wv, v, l, rfl, hw, ok, hl, lo, k1, k2⟩ := h
    refine ⟨_, (pss_cons (ps_expr (pe_call (ok_check_lot E) (hr.mono (by decide)) rfl E.d_check_lot.g E.d_check_lot.F.kp E.d_check_lot.b .nil (E := E') (passes_call (takes_of rfl rfl rfl rfl) (fun _ _ _ _ h => h)) (pa_cons (pv 0) (pa_cons (pv 1) pa_nil)))) (pss_cons (ps_expr (pe_call (ok_check_few E TM) (hr.mono (by decide)) rfl E.d_check_few.g E.d_check_few.F.kp E.d_check_few.b .nil (E := E') (passes_call (takes_of rfl rfl rfl rfl) (fun _ _ _ _ h => h)) (pa_cons (pv 1) pa_nil))) (pss_one (ps_ret (pe_call (ok_harms_of E) (hr.mono (by decide)) rfl E.d_harms_of.g E.d_harms_of.F.kp E.d_harms_of.b .nil pass0 (pa_cons (pv 0) (pa_cons (pv 1) pa_nil))))))), ?_⟩
    refine ⟨_, rfl, _, rfl, W, wv, v, true, rfl, hw, lo.b hl, fun _ => fun x H1 e1 px => ?_, fun z => nomatch z⟩
    refine ⟨_, rfl, v, l, rfl, hl.t (Ex.t e1), fun h12 => fun x2 H2 e2 px2 => ?_, fun h12 => (k2 h12).back e1⟩
    exact ⟨_, rfl, _, rfl, W, wv, v, l, rfl, hw.on (e1.trans e2), ok, hl.t (Ex.t (e1.trans e2)), lo.inn, h12, ((k1 h12).back (e1.trans e2)).weak fun _ _ q => q.back (e1.trans e2)⟩
def sp_safety (C CM : Addr) : Sp := fun vs H Q E => ∃ (W : Wb) (wv v : V) (l : List Nat), vs = [wv, v] ∧ WebAt C W wv H ∧ Wok W ∧ LotAt l v H ∧ LotOk W l ∧ (l.length ≤ 12 → ∃ c cs, Mth.harmsL W.F l = c :: cs ∧ Ret H (fun x _ => x = .int ((c.length : Int) - 1)) Q) ∧ (12 < l.length → Out CM H E)
theorem ok_safety (E : Env K mg) (TM : Tm.Txt P K mg E.CM E.fM) : FnOk P w K mg base (L2.CX P w) 10 E.d_safety.f E.d_safety.fd ["web", "lot"] (sp_safety E.CW E.CM) := by
  refine E.d_safety.F.ok sc_safety (fun vs H Q E h => ?_) (fun cdv A outer s H vs Q E' hr h => ?_)
  · obtain ⟨W, wv, v, l, rfl, _⟩ := h
    rfl
  · obtain ⟨W, wv, v, l, rfl, hw, ok, hl, lo, k1, k2⟩ := h
    refine ⟨_, (pss_one (ps_ret (pe_op op_sub (pe_callB call_len_seq (by rfl) E.f_len (by decide +kernel) (pa_cons (pe_ix ix_list (pe_call (ok_harms E TM) (hr.mono (by decide)) rfl E.d_harms.g E.d_harms.F.kp E.d_harms.b .nil (E := E') (passes_call (takes_of rfl rfl rfl rfl) (fun _ _ _ _ h => h)) (pa_cons (pv 0) (pa_cons (pv 1) pa_nil))) pe_int (fun _ _ => rfl)) pa_nil)) pe_int))), ?_⟩
    refine ⟨_, rfl, _, rfl, W, wv, v, l, rfl, hw, ok, hl, lo, fun h12 => fun x H1 e1 px => ?_, k2⟩
    obtain ⟨c, cs, hc, kk⟩ := k1 h12
    obtain ⟨p, ys, rfl, _, hp, hys⟩ := px.now
    rw [hc] at hys
    cases hys with
    | cons h1 h2 =>
      obtain ⟨a, rfl, ha⟩ := h1
      refine ⟨p, _, 0, _, rfl, rfl, SqL.of hp, atI_nat (j := 0) rfl, a, _, rfl, .inr (SqT.of ha), _, _, rfl, rfl, ?_⟩
      rw [List.length_map]
      exact kk.val e1
/-- what is_safe is asked, and what it does -/
def sp_is_safe (C CL CN CM : Addr) : Sp := fun vs H Q E => ∃ (W : Wb) (wv v kv : V), vs = [wv, v, kv] ∧ WebAt C W wv H ∧ Wok W ∧ Th H kv ∧
  ((LotB H v (W.ps.length : Int) false ∧ ∀ H', Ex H H' → E (.ref CL) none H') ∨ ∃ l, LotAt l v H ∧ LotOk W l ∧
    ((isIn kv 0 12 = false ∧ ∀ H', Ex H H' → E (.ref CN) none H') ∨ (isIn kv 0 12 = true ∧ 12 < l.length ∧ Out CM H E) ∨
      ∃ k c cs, kv = .int k ∧ 0 ≤ k ∧ k ≤ 12 ∧ l.length ≤ 12 ∧ Mth.harmsL W.F l = c :: cs ∧ Ret H (fun x _ => x = .bl (decide (k ≤ (c.length : Int) - 1))) Q))
theorem ok_is_safe (E : Env K mg) (TM : Tm.Txt P K mg E.CM E.fM) : FnOk P w K mg base (L2.CX P w) 11 E.d_is_safe.f E.d_is_safe.fd ["web", "lot", "k"] (sp_is_safe E.CW E.CL E.CN E.CM) := by
  refine E.d_is_safe.F.ok sc_is_safe (fun vs H Q E h => ?_) (fun cdv A outer s H vs Q E' hr h => ?_)
  · obtain ⟨W, wv, v, kv, rfl, _⟩ := h
    rfl
  · obtain ⟨W, wv, v, kv, rfl, hw, ok, hk, h⟩ := h
    refine ⟨_, (pss_cons (ps_expr (pe_call (ok_check_lot E) (hr.mono (by decide)) rfl E.d_check_lot.g E.d_check_lot.F.kp E.d_check_lot.b .nil (E := E') (passes_call (takes_of rfl rfl rfl rfl) (fun _ _ _ _ h => h)) (pa_cons (pv 0) (pa_cons (pv 1) pa_nil)))) (pss_cons (ps_expr (pe_call (ok_check_safe E) (hr.mono (by decide)) rfl E.d_check_safe.g E.d_check_safe.F.kp E.d_check_safe.b .nil (E := E') (passes_call (takes_of rfl rfl rfl rfl) (fun _ _ _ _ h => h)) (pa_cons (pv 2) pa_nil))) (pss_one (ps_ret (pe_cmpR op_ge (pe_call (ok_safety E TM) (hr.mono (by decide)) rfl E.d_safety.g E.d_safety.F.kp E.d_safety.b .nil (E := E') (passes_call (takes_of rfl rfl rfl rfl) (fun _ _ _ _ h => h)) (pa_cons (pv 0) (pa_cons (pv 1) pa_nil))) (pv 2) (nomark _)))))), ?_⟩
    rcases h with ⟨hb, kx⟩ | ⟨l, hl, lo, h⟩
    · exact ⟨_, rfl, _, rfl, W, wv, v, false, rfl, hw, hb, (fun z => nomatch z), fun _ => kx⟩
    · refine ⟨_, rfl, _, rfl, W, wv, v, true, rfl, hw, lo.b hl, fun _ => fun x H1 e1 px => ?_, fun z => nomatch z⟩
      refine ⟨_, rfl, kv, rfl, hk.on e1, fun hin => fun x2 H2 e2 px2 => ?_, fun hin H2 e2 => ?_⟩
      · have e3 := e1.trans e2
        refine ⟨_, rfl, _, rfl, W, wv, v, l, rfl, hw.on e3, ok, hl.t (Ex.t e3), lo, fun h12 => ?_, fun h12 => ?_⟩
        · rcases h with ⟨z, _⟩ | ⟨_, z, _⟩ | ⟨k, c, cs, rfl, k0, k1, _, hc, kk⟩
          · rw [z] at hin
            cases hin
          · omega
          · exact ⟨c, cs, hc, ret_val fun H4 e4 => ⟨_, rfl, _, _, rfl, rfl, kk.val (e3.trans e4)⟩⟩
        · rcases h with ⟨z, _⟩ | ⟨_, _, o⟩ | ⟨k, c, cs, _, _, _, z, _⟩
          · rw [z] at hin
            cases hin
          · exact o.back e3
          · omega
      · rcases h with ⟨_, z⟩ | ⟨z, _⟩ | ⟨k, c, cs, rfl, k0, k1, _⟩
        · exact z H2 (e1.trans e2)
        · rw [z] at hin
          cases hin
        · exfalso
          have z : (decide (0 ≤ k) && decide (k ≤ 12)) = false := hin
          rw [decide_eq_true k0, decide_eq_true k1] at z
          cases z
end
end Wk
end

section
set_option Elab.async false
set_option linter.all false
set_option maxRecDepth 100000
set_option maxHeartbeats 2000000
namespace Wk
open PySem PySem.Spec PyProof.Rows L2 Evl Rk
def OptLot (o : Option (List Nat)) (x : V) (H : Hp) : Prop := match o with
  | none => x = .non
  | some l => LotAt l x H
theorem OptLot.t {o : Option (List Nat)} {x : V} {H H' : Hp} (e : ExT H H') (h : OptLot o x H) : OptLot o x H' := by
  cases o with
  | none => exact h
  | some l => exact LotAt.t e h
noncomputable def Wb.good (W : Wb) (k : Int) : List (List Nat) := (Mth.upto (W.ps.length + 1) (List.range W.ps.length)).filter fun l => Mth.meets l (Mth.harmsL W.F (List.range W.ps.length)) k
/-- what lightest_safe tells -/
def LightR (W : Wb) (k : Int) (o : Option (List Nat)) : Prop := match o with
  | none => W.good k = [] ∨ ∃ cs, Mth.harmsL W.F (List.range W.ps.length) = [] :: cs
  | some l => ∃ m, (∀ y, y ∈ W.good k → m ≤ W.size y) ∧ ∃ rest, (W.good k).filter (fun l => decide (W.size l = m)) = l :: rest
theorem lotOk_range (W : Wb) : LotOk W (List.range W.ps.length) := ⟨fun i hi => List.mem_range.mp hi, List.pairwise_lt_range⟩
theorem min_ex : ∀ {l : List Int}, l ≠ [] → ∃ m, m ∈ l ∧ ∀ y, y ∈ l → m ≤ y
  | [], h => absurd rfl h
  | [x], _ => ⟨x, List.mem_cons_self, fun y hy => by rw [List.mem_singleton.mp hy]; exact Int.le_refl _⟩
  | x :: y :: r, _ => by
    obtain ⟨m, h1, h2⟩ := min_ex (l := y :: r) (by intro z; cases z)
    by_cases h : x ≤ m
    · refine ⟨x, List.mem_cons_self, fun z hz => ?_⟩
      rcases List.mem_cons.mp hz with rfl | hz
      · exact Int.le_refl _
      · exact Int.le_trans h (h2 z hz)
    · refine ⟨m, List.mem_cons_of_mem _ h1, fun z hz => ?_⟩
      rcases List.mem_cons.mp hz with rfl | hz
      · omega
      · exact h2 z hz
section
variable {K : PySem.W.Frag} {base : Heap} {mg : Str → Option Value} {P : Program} {w : World}
def sp_lightest_safe (C CN CM : Addr) : Sp := fun vs H Q E => ∃ (W : Wb) (wv kv : V), vs = [wv, kv] ∧ WebAt C W wv H ∧ Wok W ∧ Th H kv ∧
  ((isIn kv 0 12 = false ∧ ∀ H', Ex H H' → E (.ref CN) none H') ∨ (isIn kv 0 12 = true ∧ 12 < W.ps.length ∧ Out CM H E) ∨
    ∃ k c cs, kv = .int k ∧ 0 ≤ k ∧ k ≤ 12 ∧ W.ps.length ≤ 12 ∧ Mth.harmsL W.F (List.range W.ps.length) = c :: cs ∧ Ret H (fun x H' => ∃ o, OptLot o x H' ∧ LightR W k o) Q)
theorem ok_lightest_safe (E : Env K mg) (TM : Tm.Txt P K mg E.CM E.fM) : FnOk P w K mg base (L2.CX P w) 11 E.d_lightest_safe.f E.d_lightest_safe.fd ["web", "k"] (sp_lightest_safe E.CW E.CN E.CM) := by
  refine E.d_lightest_safe.F.ok sc_lightest_safe (fun vs H Q E h => ?_) (fun cdv A outer s H vs Q E' hr h => ?_)
  · obtain ⟨W, wv, kv, rfl, _⟩ := h
    rfl
  · obtain ⟨W, wv, kv, rfl, hw, ok, hk, h⟩ := h
    have h40 := ok.len
    refine ⟨_, (pss_cons (ps_expr (pe_call (ok_check_safe E) (hr.mono (by decide)) rfl E.d_check_safe.g E.d_check_safe.F.kp E.d_check_safe.b .nil (E := E') (passes_call (takes_of rfl rfl rfl rfl) (fun _ _ _ _ h => h)) (pa_cons (pv 1) pa_nil))) (pss_cons (ps_expr (pe_call (ok_check_few E TM) (hr.mono (by decide)) rfl E.d_check_few.g E.d_check_few.F.kp E.d_check_few.b .nil (E := E') (passes_call (takes_of rfl rfl rfl rfl) (fun _ _ _ _ h => h)) (pa_cons (pe_call (ok_every E) (hr.mono (by decide)) rfl E.d_every.g E.d_every.F.kp E.d_every.b .nil pass0 (pa_cons (pv 0) pa_nil)) pa_nil))) (pss_cons (ps_set (i := 2) sc_lightest_safe.nd rfl (by first | exact Or.inl rfl | exact Or.inr rfl) (pe_call (ok_harms_of E) (hr.mono (by decide)) rfl E.d_harms_of.g E.d_harms_of.F.kp E.d_harms_of.b .nil pass0 (pa_cons (pv 0) (pa_cons (pe_call (ok_every E) (hr.mono (by decide)) rfl E.d_every.g E.d_every.F.kp E.d_every.b .nil pass0 (pa_cons (pv 0) pa_nil)) pa_nil)))) (pss_cons (ps_setLc (i := 3) (own := [("lot", 4)]) (g := gName 4) rfl sc_lightest_safe.nd rfl rfl (sw_true rfl rfl rfl (by decide +kernel)) (pi_list (pe_call (ok_all_lots E) (hr.mono (by decide)) rfl E.d_all_lots.g E.d_all_lots.F.kp E.d_all_lots.b .nil pass0 (pa_cons (pe_callB call_len_seq (by rfl) E.f_len (by decide +kernel) (pa_cons (pe_fld (pv 0) rfl) pa_nil)) pa_nil))) (blkOk_by (N := n_lightest_safe) (sc := defScope s_lightest_safe) (by decide +kernel)) (fun _ _ _ _ _ => (pg_name (i := 4) sc_lightest_safe.nd rfl (by first | exact Or.inl rfl | exact Or.inr rfl))) (fun _ _ _ _ _ => (pts_one (pt_val (pe_call (ok_meets_all E) (hr.mono (by decide)) rfl E.d_meets_all.g E.d_meets_all.F.kp E.d_meets_all.b .nil pass0 (pa_cons (pv 4) (pa_cons (pv 2) (pa_cons (pv 1) pa_nil))))))) (fun _ _ _ _ _ => (pv 4))) (pss_cons (ps_if (PW.pt (pw_or (pt_cmpR op_eq (pe_callB call_len_seq (by rfl) E.f_len (by decide +kernel) (pa_cons (pv 3) pa_nil)) pe_int (nomark _)) (pw_or1 (pt_cmpR op_eq (pe_callB call_len_seq (by rfl) E.f_len (by decide +kernel) (pa_cons (pe_ix ix_list (pv 2) pe_int (fun _ _ => rfl)) pa_nil)) pe_int (nomark _))))) (pss_one (ps_ret pe_non)) pss_nil) (pss_cons (ps_set (i := 5) sc_lightest_safe.nd rfl (by first | exact Or.inl rfl | exact Or.inr rfl) (pe_callB (cr_min rfl) (by rfl) E.f_min (by decide +kernel) (pa_cons (pe_lc (own := [("lot", 4)]) (g := gName 4) rfl sc_lightest_safe.nd (pi_list (pv 3)) (blkOk_by (N := n_lightest_safe) (sc := defScope s_lightest_safe) (by decide +kernel)) (fun _ _ _ _ _ => (pg_name (i := 4) sc_lightest_safe.nd rfl (by first | exact Or.inl rfl | exact Or.inr rfl))) (fun _ _ _ _ _ => pts_nil) (fun _ _ _ _ _ => (pe_call (ok_size_in E) (hr.mono (by decide)) rfl E.d_size_in.g E.d_size_in.F.kp E.d_size_in.b .nil pass0 (pa_cons (pv 0) (pa_cons (pv 4) pa_nil))))) pa_nil))) (pss_one (ps_ret (pe_ix ix_list (pe_lc (own := [("lot", 4)]) (g := gName 4) rfl sc_lightest_safe.nd (pi_list (pv 3)) (blkOk_by (N := n_lightest_safe) (sc := defScope s_lightest_safe) (by decide +kernel)) (fun _ _ _ _ _ => (pg_name (i := 4) sc_lightest_safe.nd rfl (by first | exact Or.inl rfl | exact Or.inr rfl))) (fun _ _ _ _ _ => (pts_one (pt_cmpR op_eq (pe_call (ok_size_in E) (hr.mono (by decide)) rfl E.d_size_in.g E.d_size_in.F.kp E.d_size_in.b .nil pass0 (pa_cons (pv 0) (pa_cons (pv 4) pa_nil))) (pv 5) (nomark _)))) (fun _ _ _ _ _ => (pv 4))) pe_int (fun _ _ => rfl)))))))))), ?_⟩
    refine ⟨_, rfl, kv, rfl, hk, fun hin => fun x H1 e1 px => ?_, fun hin H1 e1 => ?_⟩
    · refine ⟨_, rfl, W, wv, rfl, hw.on e1, h40, fun ev H2 e2 pe => ⟨ev, _, rfl, pe.now, fun h12 => fun x2 H3 e3 px2 => ?_, fun h12 => ?_⟩⟩
      · rw [List.length_range] at h12
        have E3 := (e1.trans e2).trans e3
        rcases h with ⟨z, _⟩ | ⟨_, z, _⟩ | ⟨k, c, cs, rfl, k0, k1, n12, hc, kk⟩
        · rw [z] at hin
          cases hin
        · omega
        · refine ⟨_, rfl, _, rfl, W, wv, rfl, hw.on E3, h40, fun ev3 H4 e4 pe4 => ⟨W, wv, ev3, _, rfl, hw.on (E3.trans e4), ok, pe4.now, (lotOk_range W).inn, by rw [List.length_range]; exact n12, fun cv H5 e5 pc => ?_⟩⟩
          obtain ⟨cp, cys, rfl, _, hcp, hcys⟩ := pc.now
          have E5 := (E3.trans e4).trans e5
          have hw5 := hw.on E5
          obtain ⟨x, dx, pa, rfl, hx, pvs, hpa, hpl⟩ := id hw5
          have hpvl : W.ps.length = pvs.length := hpl.length
          have hsz : ∀ l, l ∈ Mth.upto (W.ps.length + 1) (List.range W.ps.length) → l.length ≤ 12 ∧ In W l := fun l hl => by
            obtain ⟨s1, s2⟩ := Mth.mem_upto.mp hl
            refine ⟨by omega, fun i hi => List.mem_range.mp (s1.subset hi)⟩
          have hul : (Mth.upto (W.ps.length + 1) (List.range W.ps.length)).length ≤ 16000000 := by
            have q := Mth.upto_len (W.ps.length + 1) (List.range W.ps.length)
            rw [List.length_range] at q
            have h2 : 2 ^ W.ps.length ≤ 4096 := Nat.le_trans (Nat.pow_le_pow_right (by decide) n12) (by decide)
            have h3 : (W.ps.length + 1) * 2 ^ W.ps.length ≤ 13 * 4096 := Nat.mul_le_mul (by omega) h2
            omega
          have hcl : ∀ c', c' ∈ Mth.harmsL W.F (List.range W.ps.length) → c'.length ≤ 40 := fun c' hc' => by
            rcases Mth.mem_fold _ _ hc' with m | m
            · cases m
            · have q := (Mth.mem_upto.mp m).1.length_le
              rw [List.length_range] at q
              omega
          have hcn : (Mth.harmsL W.F (List.range W.ps.length)).length ≤ 16000000 := by
            have q := Mth.scan_len W.F (List.range W.ps.length) (Mth.upto ((List.range W.ps.length).length + 1) (List.range W.ps.length)) []
            rw [List.length_range] at q
            unfold Mth.harmsL
            rw [List.length_range]
            rw [List.length_nil] at q
            omega
          refine q_asgP (lc_evpX (R := LotAt) (as := Mth.upto (W.ps.length + 1) (List.range W.ps.length)) (fun a v H H' e h => LotAt.t (Ex.t e) h) (eix_list (H0 := H5) (ev_callA (ea_cons (ev_lenS (ev_pieces E (ev_var rfl) hx) (.inr (SqT.of hpa))) ea_nil) fun H6 e6 Q6 r6 => ⟨W.ps.length, by rw [hpvl]; rfl, n12, r6.weak fun _ _ q => q.back e6⟩)) (fun l => Mth.meets l (Mth.harmsL W.F (List.range W.ps.length)) k) LotAt (fun a y H H' e h => LotAt.t e h) hul (fun _ => by rfl) (fun l v H6 e6 hl hv => ?_) fun l v H6 e6 hl hv _ => ?_) fun gv H6 e6 pg => ?_
          · exact et_B (ev_callV (ea_cons (ev_var rfl) (ea_cons (ev_var rfl) (ea_cons (ev_var rfl) ea_nil))) fun H7 e7 Q7 r7 => ⟨v, cp, cys, l, _, k, rfl, hv.t (Ex.t e7), SqL.of (e7 _ _ (e6 _ _ hcp)), hcys.mono fun _ _ q => q.t (Ex.t (e6.trans e7)), hcl, hcn, r7⟩)
          · exact evp_of (ev_var rfl) hv.sta
          · obtain ⟨gp, gys, rfl, _, hgp, hgys⟩ := pg.now
            have hG : (Mth.upto (W.ps.length + 1) (List.range W.ps.length)).filter (fun l => Mth.meets l (Mth.harmsL W.F (List.range W.ps.length)) k) = W.good k := rfl
            rw [hG] at hgys
            have hgl : gys.length = (W.good k).length := hgys.length.symm
            have hmem : ∀ l, l ∈ W.good k → l.length ≤ 12 ∧ In W l := fun l hl => hsz l (List.mem_filter.mp hl).1
            have hgn : (W.good k).length ≤ 16000000 := Nat.le_trans (List.length_filter_le _ _) hul
            have E6 := E5.trans e6
            have hcp6 := e6 _ _ hcp
            rw [hc] at hcys
            cases hcys with
            | cons hc1 hc2 =>
              rename_i y1 ys1
              obtain ⟨ca, rfl, hca⟩ := hc1
              refine q_when (b := decide ((W.good k).length = 0) || decide (c.length = 0)) (et_or (et_test (ev_is (ev_op (ev_lenS (ev_var rfl) (.inl (SqL.of hgp))) ev_c (rv_eq rfl)) ?_)) fun _ => et_test (ev_is (ev_op (ev_lenS (ev_op (ev_var rfl) ev_c (rv_ixL (SqL.of hcp6) (atI_nat (j := 0) rfl))) (.inr (SqT.of (e6 _ _ hca)))) ev_c (rv_eq rfl)) ?_)) (fun hb H7 e7 => ?_) fun hb H7 e7 => ?_
              · rw [hgl]
                refine congrArg V.bl ?_
                by_cases z : (W.good k).length = 0
                · rw [decide_eq_true z, decide_eq_true (by rw [z]; rfl)]
                · rw [decide_eq_false z, decide_eq_false (fun y => z (by have := V.int.inj y; omega))]
              · rw [List.length_map]
                refine congrArg V.bl ?_
                by_cases z : c.length = 0
                · rw [decide_eq_true z, decide_eq_true (by rw [z]; rfl)]
                · rw [decide_eq_false z, decide_eq_false (fun y => z (by have := V.int.inj y; omega))]
              · refine kk _ H7 (E6.trans e7) fun _ _ => ⟨none, rfl, ?_⟩
                rcases Bool.or_eq_true_iff.mp hb with z | z
                · exact .inl (List.eq_nil_of_length_eq_zero (of_decide_eq_true z))
                · refine .inr ⟨cs, ?_⟩
                  rw [hc, List.eq_nil_of_length_eq_zero (of_decide_eq_true z)]
              · obtain ⟨z1, z2⟩ := Bool.or_eq_false_iff.mp hb
                have gne : W.good k ≠ [] := fun z => by
                  rw [z] at z1
                  cases z1
                have hgys7 : Paired (fun l v => LotAt l v H7) (W.good k) gys := hgys.mono fun _ _ q => q.t (Ex.t e7)
                have hgp7 := e7 _ _ hgp
                have hw7 := hw5.on (e6.trans e7)
                obtain ⟨m, m1, m2⟩ := min_ex (l := (W.good k).map W.size) (by intro z; exact gne (List.map_eq_nil_iff.mp z))
                refine q_asgP (ev_cb1 (P' := fun v _ => v = .int m) (lc_mapR (R := fun l v => LotAt l v H7) (ei_list (ev_var rfl) (SqL.of hgp7)) hgys7 V.int W.size hgn (fun _ => by rfl) fun l v H9 e9 hl hv => ?_) fun nv H9 e9 pn Q9 r9 => ?_) fun mv H8 e8 pm => ?_
                · exact ev_callV (ea_cons (ev_var rfl) (ea_cons (ev_var rfl) ea_nil)) fun H10 e10 Q10 r10 => ⟨W, _, v, l, rfl, hw7.on (e9.trans e10), hv.t (Ex.t (e9.trans e10)), (hmem l hl).2, by have := (hmem l hl).1; omega, r10⟩
                · obtain ⟨np, rfl, _, hnp⟩ := pn.now
                  refine ⟨np, (W.good k).map W.size, rfl, SqL.of hnp, ?_, fun m' h1 h2 => ?_⟩
                  · rw [List.length_map]
                    exact List.length_pos_iff.mpr gne
                  · have e : m' = m := Int.le_antisymm (h2 m m1) (m2 m' h1)
                    rw [e]
                    exact r9.val (Ex.refl _)
                · obtain rfl : mv = .int m := pm.now
                  refine s_retP (evp_opP (lc_evp (R := fun l v => LotAt l v H7) (ei_list (ev_var rfl) (SqL.of (e8 _ _ hgp7))) hgys7 (fun l => decide (W.size l = m)) LotAt (fun a y H H' e h => LotAt.t e h) hgn (fun _ => by rfl) (fun l v H9 e9 hl hv => ?_) fun l v H9 e9 hl hv _ => ?_) ev_c fun u H9 e9 pu Q9 r9 => ?_) fun v H9 e9 pv => kk v H9 ((E6.trans e7).trans (e8.trans e9)) pv
                  · refine et_test (ev_is (ev_op (ev_callV (z := .int (W.size l)) (ea_cons (ev_var rfl) (ea_cons (ev_var rfl) ea_nil)) fun H10 e10 Q10 r10 => ⟨W, _, v, l, rfl, hw7.on (e8.trans (e9.trans e10)), hv.t (Ex.t (e8.trans (e9.trans e10))), (hmem l hl).2, by have := (hmem l hl).1; omega, r10⟩) (ev_var rfl) (rv_eq rfl)) ?_)
                    refine congrArg V.bl ?_
                    by_cases z : W.size l = m
                    · rw [decide_eq_true z, decide_eq_true (by rw [z])]
                    · rw [decide_eq_false z, decide_eq_false (fun y => z (V.int.inj y))]
                  · exact evp_of (ev_var rfl) (LotAt.sta (hv.t (Ex.t (e8.trans e9))))
                  · obtain ⟨up, uys, rfl, _, hup, huys⟩ := pu.now
                    obtain ⟨l0, hl0, el0⟩ := List.mem_map.mp m1
                    generalize hfl : (W.good k).filter (fun l => decide (W.size l = m)) = fl at huys
                    cases huys with
                    | nil =>
                      have q : l0 ∈ (W.good k).filter (fun l => decide (W.size l = m)) := List.mem_filter.mpr ⟨hl0, decide_eq_true el0⟩
                      rw [hfl] at q
                      cases q
                    | @cons l y fl' ys' h1 h2 =>
                      refine ⟨up, _, 0, y, rfl, rfl, SqL.of hup, atI_nat (j := 0) rfl, r9 y H9 (Ex.refl _) fun H10 e10 => ⟨some l, LotAt.t (Ex.t e10) h1, m, fun y hy => m2 _ (List.mem_map.mpr ⟨y, hy, rfl⟩), fl', hfl⟩⟩
      · rw [List.length_range] at h12
        rcases h with ⟨z, _⟩ | ⟨_, _, o⟩ | ⟨k, c, cs, _, _, _, z, _⟩
        · rw [z] at hin
          cases hin
        · exact o.back (e1.trans e2)
        · omega
    · rcases h with ⟨_, z⟩ | ⟨z, _⟩ | ⟨k, c, cs, rfl, k0, k1, _⟩
      · exact z H1 e1
      · rw [z] at hin
        cases hin
      · exfalso
        have z : (decide (0 ≤ k) && decide (k ≤ 12)) = false := hin
        rw [decide_eq_true k0, decide_eq_true k1] at z
        cases z
end
end Wk
end

section
set_option Elab.async false
set_option linter.all false
set_option maxRecDepth 100000
set_option maxHeartbeats 2000000
namespace Wk
open PySem PySem.Spec PyProof.Rows L2 Evl Rk
/-- the law's own web -/
def LWebAt (W : Wb) (v : V) (H : Hp) : Prop := ∃ t a, v = .ref t ∧ H t = some (.tup [.int W.p, nV W.n, .ref a]) ∧ PsAt W.ps a H
theorem LWebAt.t {W : Wb} {v : V} {H H' : Hp} (e : ExT H H') (h : LWebAt W v H) : LWebAt W v H' := by
  obtain ⟨t, a, h1, h2, h3⟩ := h
  exact ⟨t, a, h1, e _ _ h2 rfl, h3.t e⟩
section
variable {K : PySem.W.Frag} {base : Heap} {mg : Str → Option Value} {P : Program} {w : World}
def StAt (b : Nat × List Int) (v : V) (H : Hp) : Prop := ∃ t r, v = .ref t ∧ H t = some (.tup [nV b.1, .ref r]) ∧ H r = some (.lst (b.2.map V.int))
theorem StAt.on {b : Nat × List Int} {v : V} {H H' : Hp} (e : Ex H H') (h : StAt b v H) : StAt b v H' := by
  obtain ⟨t, r, h1, h2, h3⟩ := h
  exact ⟨t, r, h1, e _ _ h2, e _ _ h3⟩
def sp__law_rank (K : PySem.W.Frag) : Sp := fun vs H Q _ => ∃ (p : Int) (n : Nat) (a : Addr) (ys : List V) (R : List (List Int)), vs = [.int p, .ref a] ∧ SqL K H a ys ∧ Paired (fun r y => RowAt r y H) R ys ∧ (∀ r, r ∈ R → Mth.IsRow p n r) ∧ 2 ≤ p ∧ p ≤ 251 ∧ Mth.Inv p ∧ n ≤ 10 ∧ R.length ≤ 40 ∧
  Ret H (fun u _ => ∃ r : Nat, u = nV r ∧ (r = n ↔ Mth.Full p n R)) Q
theorem ok__law_rank (E : Env K mg) : FnOk P w K mg base CX0 1 E.d__law_rank.f E.d__law_rank.fd ["_law_prime", "_law_sums_here"] (sp__law_rank K) := by
  refine E.d__law_rank.F.ok sc__law_rank (fun vs H Q E h => ?_) (fun cdv A outer s H vs Q E' hr h => ?_)
  · obtain ⟨p, n, a, ys, R, rfl, _⟩ := h
    rfl
  · obtain ⟨p, n, a, ys, R, rfl, ha, hys, hR, p2, p251, hinv, hn, h40, k⟩ := h
    refine ⟨_, PSs.nox (pss_cons (ps_set (i := 2) sc__law_rank.nd rfl (by first | exact Or.inl rfl | exact Or.inr rfl) (pe_lst pa_nil)) (pss_cons (ps_for PassesOwn.never rfl (pi_list (pv 1)) (pg_name (i := 3) sc__law_rank.nd rfl (by first | exact Or.inl rfl | exact Or.inr rfl)) (pss_cons (ps_set (i := 4) sc__law_rank.nd rfl (by first | exact Or.inl rfl | exact Or.inr rfl) (pe_callTy call_list_of (by rfl) E.f_list (by decide +kernel) (pa_cons (pv 3) pa_nil))) (pss_cons (ps_for PassesOwn.never rfl (pi_list (pv 2)) (pg_tup rfl (pgs_cons (pg_name (i := 5) sc__law_rank.nd rfl (by first | exact Or.inl rfl | exact Or.inr rfl)) (pgs_cons (pg_name (i := 6) sc__law_rank.nd rfl (by first | exact Or.inl rfl | exact Or.inr rfl)) pgs_nil))) (pss_one (ps_if (pt_cmpR op_ne (pe_ix ix_list (pv 4) (pv 5) (fun _ _ => rfl)) pe_int (nomark _)) (pss_cons (ps_asg (pe_tup (pa_cons (pe_ix ix_list (pv 6) (pv 5) (fun _ _ => rfl)) (pa_cons (pe_ix ix_list (pv 4) (pv 5) (fun _ _ => rfl)) pa_nil))) (pg_tup rfl (pgs_cons (pg_name (i := 7) sc__law_rank.nd rfl (by first | exact Or.inl rfl | exact Or.inr rfl)) (pgs_cons (pg_name (i := 8) sc__law_rank.nd rfl (by first | exact Or.inl rfl | exact Or.inr rfl)) pgs_nil)))) (pss_one (ps_set (i := 4) sc__law_rank.nd rfl (by first | exact Or.inl rfl | exact Or.inr rfl) (pe_lc (own := [("_law_k", 9)]) (g := gName 9) rfl sc__law_rank.nd (pi_range1 rfl E.f_range (pa_cons (pe_callB call_len_seq (by rfl) E.f_len (by decide +kernel) (pa_cons (pv 4) pa_nil)) pa_nil)) (blkOk_by (N := n__law_rank) (sc := defScope s__law_rank) (by decide +kernel)) (fun _ _ _ _ _ => (pg_name (i := 9) sc__law_rank.nd rfl (by first | exact Or.inl rfl | exact Or.inr rfl))) (fun _ _ _ _ _ => pts_nil) (fun _ _ _ _ _ => (pe_op op_mod (pe_callTy call_int1 (by rfl) E.f_int (by decide +kernel) (pa_cons (pe_op op_sub (pe_op op_mul (pe_ix (kx_list (K := K) (by rfl)) (pv 4) (pv 9) (fun _ _ => rfl)) (pv 7)) (pe_op op_mul (pv 8) (pe_ix (kx_list (K := K) (by rfl)) (pv 6) (pv 9) (fun _ _ => rfl)))) pa_nil)) (pv 0))))))) pss_nil))) (pss_cons (ps_setLc (i := 10) (own := [("_law_k", 9)]) (g := gName 9) rfl sc__law_rank.nd rfl rfl (sw_true rfl rfl rfl (by decide +kernel)) (pi_range1 rfl E.f_range (pa_cons (pe_callB call_len_seq (by rfl) E.f_len (by decide +kernel) (pa_cons (pv 4) pa_nil)) pa_nil)) (blkOk_by (N := n__law_rank) (sc := defScope s__law_rank) (by decide +kernel)) (fun _ _ _ _ _ => (pg_name (i := 9) sc__law_rank.nd rfl (by first | exact Or.inl rfl | exact Or.inr rfl))) (fun _ _ _ _ _ => (pts_one (pt_cmpR op_ne (pe_ix (kx_list (K := K) (by rfl)) (pv 4) (pv 9) (fun _ _ => rfl)) pe_int (nomark _)))) (fun _ _ _ _ _ => (pv 9))) (pss_one (ps_if (pt_cmpR op_gt (pe_callB call_len_seq (by rfl) E.f_len (by decide +kernel) (pa_cons (pv 10) pa_nil)) pe_int (nomark _)) (pss_one (ps_expr (pe_bm PySem.F.plainAttrs_list PySem.F.slot_list_append PySem.F.type_list_append mt_append (pv 2) (pa_cons (pe_tup (pa_cons (pe_ix ix_list (pv 10) pe_int (fun _ _ => rfl)) (pa_cons (pv 4) pa_nil))) pa_nil)))) pss_nil)))))) (pss_one (ps_ret (pe_callB call_len_seq (by rfl) E.f_len (by decide +kernel) (pa_cons (pv 2) pa_nil)))))), ?_⟩
    refine ⟨Nat.zero_le _, fun rl nrl => ?_⟩
    have e0 : Ex H (upd H rl (.lst [])) := Ex.new nrl
    refine ⟨_, rfl, a, rfl, ⟨ys, ex_l e0 ha⟩, for_list (xs := ys) (fun i σ H' => ∃ u3 u4 u5 u6 u7 u8 u9 u10, σ = [some (.int p), some (.ref a), some (.ref rl), u3, u4, u5, u6, u7, u8, u9, u10] ∧ Ex H H' ∧ ∃ bs rys, H' rl = some (.lst rys) ∧ Paired (fun b v => StAt b v (rm H' rl)) bs rys ∧ Mth.Stair p n bs ∧ Mth.Same p n (R.take i) (bs.map (·.2)) ∧ bs.length ≤ i ∧ ∀ b, b ∈ bs → b.2.length = n)
      ⟨none, none, none, none, none, none, none, none, rfl, e0, [], [], upd_same, .nil, trivial, Mth.Same.nil, Nat.le_refl _, fun _ h => nomatch h⟩ (fun i σ H' _ h => ?_) (fun i y σ H' hi h => ?_) fun σ H' h => ?_⟩
    · obtain ⟨_, _, _, _, _, _, _, _, _, e, _⟩ := h
      exact ex_l e ha
    · obtain ⟨u3, u4, u5, u6, u7, u8, u9, u10, rfl, e1, bs, rys, hrl, hbs, st, sm, hbl, hbn⟩ := h
      obtain ⟨r0, hr0, oa, rfl, hoa⟩ := pget2 hys hi
      have ir0 : Mth.IsRow p n r0 := hR r0 (List.mem_of_getElem? hr0)
      have hi40 : i < 40 := by
        have q := (List.getElem?_eq_some_iff.mp hr0).1
        omega
      refine ⟨_, rfl, oa, _, rfl, .inr (SqT.of (e1 _ _ hoa)), fun l0 nl0 => ?_⟩
      have e2 : Ex H' (upd H' l0 (.lst (r0.map V.int))) := Ex.new nl0
      have hl0 : (upd H' l0 (.lst (r0.map V.int))) l0 = some (.lst (r0.map V.int)) := upd_same
      have nlr0 : l0 ≠ rl := (ne_of_none hrl nl0).symm
      generalize upd H' l0 (.lst (r0.map V.int)) = H2 at e2 hl0
      have hrl2 := e2 _ _ hrl
      have hbs2 : Paired (fun b v => StAt b v (rm H2 rl)) bs rys := hbs.mono fun _ _ q => q.on (rm_mono e2)
      have hbsl := hbs.length
      refine ⟨_, rfl, rl, rfl, ⟨rys, SqL.of hrl2⟩, for_list (xs := rys) (fun j σ H3 => ∃ l r' u5 u6 u7 u8, σ = [some (.int p), some (.ref a), some (.ref rl), some (.ref oa), some (.ref l), u5, u6, u7, u8, u9, u10] ∧ Ex H2 H3 ∧ l ≠ rl ∧ H3 l = some (.lst (r'.map V.int)) ∧ Mth.Red p n bs r0 r' j)
        ⟨l0, r0, u5, u6, u7, u8, rfl, Ex.refl _, nlr0, hl0, Mth.Red.start ir0⟩ (fun j σ H3 _ h => ?_) (fun j v σ H3 hj h => ?_) fun σ H3 h => ?_⟩
      · obtain ⟨_, _, _, _, _, _, _, e3, _⟩ := h
        exact SqL.of (e3 _ _ hrl2)
      · obtain ⟨l, r', u5, u6, u7, u8, rfl, e3, nlr, hl, red⟩ := h
        obtain ⟨b, hbj, t, br, rfl, ht, hbr⟩ := pget2 hbs2 hj
        have ht3 := e3 _ _ (rm_ex _ _ ht)
        have hbr3 := e3 _ _ (rm_ex _ _ hbr)
        have irow := red.isrow
        obtain ⟨blt, _, _⟩ := Mth.stair_at st hbj
        have hat : atI (r'.map V.int) ((b.1 : Nat) : Int) = some (.int (r'.getD b.1 0)) := atI_nat (getD_map (by rw [irow.1]; exact blt))
        refine ⟨t, _, rfl, SqT.of ht3, rfl, _, _, rfl, _, _, rfl, rfl, ?_⟩
        refine ⟨_, rfl, _, rfl, l, _, _, _, rfl, rfl, SqL.of hl, hat, rfl, _, rfl, ?_⟩
        by_cases hz : r'.getD b.1 0 = 0
        · rw [decide_eq_true (show V.int (r'.getD b.1 0) = V.int 0 by rw [hz])]
          exact ⟨l, r', _, _, u7, u8, rfl, e3, nlr, hl, red.skip hbj hz⟩
        · rw [decide_eq_false (show ¬ V.int (r'.getD b.1 0) = V.int 0 from fun z => hz (V.int.inj z))]
          have hbl2 : b.2.length = n := hbn b (List.mem_of_getElem? hbj)
          have hatb : atI (b.2.map V.int) ((b.1 : Nat) : Int) = some (.int (b.2.getD b.1 0)) := atI_nat (getD_map (by rw [hbl2]; exact blt))
          refine ⟨_, rfl, _, rfl, br, _, _, _, rfl, rfl, SqL.of hbr3, hatb, _, rfl, _, rfl, l, _, _, _, rfl, rfl, SqL.of hl, hat, by show 2 ≤ sizeLine; decide, fun T nT => ?_⟩
          have e4 : Ex H3 (upd H3 T (.tup [.int (b.2.getD b.1 0), .int (r'.getD b.1 0)])) := Ex.new nT
          refine ⟨T, _, rfl, SqT.of upd_same, rfl, _, _, rfl, _, _, rfl, rfl, ?_⟩
          generalize upd H3 T (.tup [.int (b.2.getD b.1 0), .int (r'.getD b.1 0)]) = H4 at e4
          have hl4 := e4 _ _ hl
          have hbr4 := e4 _ _ hbr3
          obtain ⟨g0, g1⟩ := irow.at blt
          have hln : (r'.map V.int).length = n := by rw [List.length_map, irow.1]
          refine s_asgP (lc_mapW (as := List.range (r'.map V.int).length) (rep := nV) (ei_rng1 (ea_cons (ev_lenS (ev_var rfl) (.inl (SqL.of hl4))) ea_nil) (by omega)) V.int (fun k => (r'.getD k 0 * b.2.getD b.1 0 - r'.getD b.1 0 * b.2.getD k 0) % p) (by rw [List.length_range]; omega) (fun _ => by rfl) fun k H5 e5 hk => ?_) fun v H5 e5 pv => ?_
          · have hkn : k < n := by
              have q := List.mem_range.mp hk
              omega
            obtain ⟨q0, q1⟩ := irow.at hkn
            exact ev_op (ev_int1 (ev_op (ev_op (ev_op (ev_var rfl) (ev_var rfl) (rv_ixL (SqL.of (e5 _ _ hl4)) (atI_nat (getD_map (by rw [irow.1]; exact hkn))))) (ev_var rfl) (rv_I (.inl ⟨by omega, by omega⟩))) (ev_op (ev_var rfl) (ev_op (ev_var rfl) (ev_var rfl) (rv_ixL (SqL.of (e5 _ _ hbr4)) (atI_nat (getD_map (by rw [hbl2]; exact hkn))))) (rv_I (.inl ⟨by omega, by omega⟩))) rv_I0)) (ev_var rfl) (rv_mod (by omega))
          · obtain ⟨l2, rfl, nl2, hl2⟩ := pv.now
            refine ⟨l2, _, _, _, _, _, rfl, e3.trans (e4.trans e5), (ne_of_none (e4 _ _ (e3 _ _ hrl2)) nl2).symm, ?_, red.step p2 st hbj⟩
            rw [hl2]
            unfold Mth.comb2
            rw [List.length_map]
      · obtain ⟨l, r', u5, u6, u7, u8, rfl, e3, nlr, hl, red⟩ := h
        rw [← hbsl] at red
        have irow := red.isrow
        have hln : (r'.map V.int).length = n := by rw [List.length_map, irow.1]
        refine q_asgP (lc_fmap (as := List.range (r'.map V.int).length) (rep := nV) (ei_rng1 (ea_cons (ev_lenS (ev_var rfl) (.inl (SqL.of hl))) ea_nil) (by omega)) (fun k => !decide (V.int (r'.getD k 0) = V.int 0)) nV (by rw [List.length_range]; omega) (fun _ => by rfl) (fun k H5 e5 hk => ?_) fun k H5 e5 hk _ => ev_var rfl) fun v H5 e5 pv => ?_
        · have hkn : k < n := by
            have q := List.mem_range.mp hk
            omega
          exact et_test (ev_op (ev_op (ev_var rfl) (ev_var rfl) (rv_ixL (SqL.of (e5 _ _ hl)) (atI_nat (getD_map (by rw [irow.1]; exact hkn))))) ev_c (rv_ne rfl))
        · obtain ⟨ld, rfl, nld, hld⟩ := pv.now
          have E5 : Ex H H5 := (e1.trans e2).trans (e3.trans e5)
          have hrl5 := e5 _ _ (e3 _ _ hrl2)
          have hl5 := e5 _ _ hl
          have hbs5 : Paired (fun b v => StAt b v (rm H5 rl)) bs rys := hbs2.mono fun _ _ q => q.on (rm_mono (e3.trans e5))
          have hRt : R.take (i + 1) = R.take i ++ [r0] := take_succ_of hr0
          generalize hfl : (List.range (r'.map V.int).length).filter (fun k => !decide (V.int (r'.getD k 0) = V.int 0)) = fl at hld
          refine ⟨_, rfl, ld, _, rfl, .inl (SqL.of hld), _, _, rfl, rfl, _, rfl, ?_⟩
          cases fl with
          | nil =>
            refine ⟨_, _, _, _, _, _, _, _, rfl, E5, bs, rys, hrl5, hbs5, st, ?_, Nat.le_succ_of_le hbl, hbn⟩
            rw [hRt]
            refine Mth.rank_same sm red fun z hz => ?_
            have q := List.filter_eq_nil_iff.mp hfl z (List.mem_range.mpr (by omega))
            by_cases hz0 : r'.getD z 0 = 0
            · exact hz0
            · exact absurd (by rw [decide_eq_false (fun y => hz0 (V.int.inj y))]; rfl) q
          | cons z fl =>
            have hm : z ∈ (List.range (r'.map V.int).length).filter (fun k => !decide (V.int (r'.getD k 0) = V.int 0)) := by
              rw [hfl]
              exact List.mem_cons_self
            obtain ⟨m1, m2⟩ := List.mem_filter.mp hm
            have hzn : z < n := by
              have q := List.mem_range.mp m1
              omega
            have hznz : r'.getD z 0 ≠ 0 := fun y => by
              rw [y] at m2
              cases m2
            have e0' : decide ((0 : Int) < (((z :: fl).map nV).length : Int)) = true := decide_eq_true (by rw [List.length_map, List.length_cons]; omega)
            rw [e0']
            obtain ⟨st2, sm2⟩ := Mth.rank_new hinv st sm red hzn hznz
            refine ⟨_, rfl, .inl ⟨rfl, _, SqL.of hrl5⟩, _, rfl, ld, _, 0, nV z, rfl, rfl, SqL.of hld, atI_nat (j := 0) rfl, _, rfl, by show 2 ≤ sizeLine; decide, fun T nT => ?_⟩
            have eT : Ex H5 (upd H5 T (.tup [nV z, .ref l])) := Ex.new nT
            have nTr : T ≠ rl := (ne_of_none hrl5 nT).symm
            refine ⟨rl, rys, _, rfl, rfl, eT _ _ hrl5, ?_, ?_⟩
            · rw [← hbs5.length, sizeLine_eq]
              omega
            · refine ⟨_, _, _, _, _, _, _, _, rfl, Ex.mut (E5.trans eT) nrl, bs ++ [(z, r')], _, upd_same, ?_, st2, by rw [hRt]; exact sm2, by rw [List.length_append, List.length_singleton]; omega, fun c hc => ?_⟩
              · rw [rm_upd]
                refine paired_app (hbs5.mono fun _ _ q => q.on (rm_mono eT)) (.cons ⟨T, l, rfl, ?_, ?_⟩ .nil)
                · rw [rm_ne nTr, upd_same]
                · rw [rm_ne nlr, upd_ne (ne_of_none hl5 nT)]
                  exact hl5
              · rcases List.mem_append.mp hc with hc | hc
                · exact hbn c hc
                · rw [List.mem_singleton.mp hc]
                  exact irow.1
    · obtain ⟨u3, u4, u5, u6, u7, u8, u9, u10, rfl, e1, bs, rys, hrl, hbs, st, sm, hbl, hbn⟩ := h
      rw [← hys.length, List.take_length] at sm
      refine ⟨_, rfl, rl, rys, rfl, .inl (SqL.of hrl), k _ H' e1 fun _ _ => ⟨rys.length, rfl, ?_⟩⟩
      rw [← hbs.length, Mth.stair_full p2 st]
      exact sm.full.symm
end
end Wk
end

section
set_option Elab.async false
set_option linter.all false
set_option maxRecDepth 100000
set_option maxHeartbeats 2000000
namespace Wk
open PySem PySem.Spec PyProof.Rows L2 Evl Rk
section
variable {K : PySem.W.Frag} {base : Heap} {mg : Str → Option Value} {P : Program} {w : World}
theorem LWebAt.ps {σ : L2.St} {H : Hp} {W : Wb} {tw ti : TE} {t a : Addr} (ht : H t = some (.tup [.int W.p, nV W.n, .ref a])) (h : Ev tw σ H (.ref t)) (hi : Ev ti σ H (.int 2)) : Ev (tOp (rIxT K) tw ti) σ H (.ref a) := ev_op h hi (rv_ixT (SqT.of ht) (atI_nat (j := 2) rfl))
theorem LWebAt.p {σ : L2.St} {H : Hp} {W : Wb} {tw ti : TE} {t a : Addr} (ht : H t = some (.tup [.int W.p, nV W.n, .ref a])) (h : Ev tw σ H (.ref t)) (hi : Ev ti σ H (.int 0)) : Ev (tOp (rIxT K) tw ti) σ H (.int W.p) := ev_op h hi (rv_ixT (SqT.of ht) (atI_nat (j := 0) rfl))
theorem LWebAt.n {σ : L2.St} {H : Hp} {W : Wb} {tw ti : TE} {t a : Addr} (ht : H t = some (.tup [.int W.p, nV W.n, .ref a])) (h : Ev tw σ H (.ref t)) (hi : Ev ti σ H (.int 1)) : Ev (tOp (rIxT K) tw ti) σ H (nV W.n) := ev_op h hi (rv_ixT (SqT.of ht) (atI_nat (j := 1) rfl))
def sp__law_sums : Sp := fun vs H Q _ => ∃ (W : Wb) (wv v : V) (l : List Nat), vs = [wv, v] ∧ LWebAt W wv H ∧ LotAt l v H ∧ In W l ∧ l.length ≤ 40 ∧ Ret H (NewP H l (fun i y H' => RowAt (W.pc i).1 y H')) Q
theorem ok__law_sums (E : Env K mg) : FnOk P w K mg base CX0 1 E.d__law_sums.f E.d__law_sums.fd ["_law_web_here", "_law_lot_here"] sp__law_sums := by
  refine E.d__law_sums.F.ok sc__law_sums (fun vs H Q E h => ?_) (fun cdv A outer s H vs Q E' hr h => ?_)
  · obtain ⟨W, wv, v, l, rfl, _⟩ := h
    rfl
  · obtain ⟨W, wv, v, l, rfl, ⟨t, a, rfl, ht, hps⟩, ⟨b, rfl, hb⟩, hin, h40, k⟩ := h
    refine ⟨_, PSs.nox (pss_one (ps_ret (pe_lc (own := [("_law_piece", 2)]) (g := gName 2) rfl sc__law_sums.nd (pi_tup (pv 1)) (blkOk_by (N := n__law_sums) (sc := defScope s__law_sums) (by decide +kernel)) (fun _ _ _ _ _ => (pg_name (i := 2) sc__law_sums.nd rfl (by first | exact Or.inl rfl | exact Or.inr rfl))) (fun _ _ _ _ _ => pts_nil) (fun _ _ _ _ _ => (pe_ix (kx_tup (K := K) (by rfl)) (pe_ix (kx_tup (K := K) (by rfl)) (pe_ix (kx_tup (K := K) (by rfl)) (pv 0) pe_int (fun _ _ => rfl)) (pv 2) (fun _ _ => rfl)) pe_int (fun _ _ => rfl)))))), ?_⟩
    have hf : (l.filter fun _ => true) = l := List.filter_eq_self.mpr fun _ _ => rfl
    rw [← hf] at k
    refine s_retP (lc_evp (tt := tYes) (R := fun i v => v = nV i) (ei_tup (ev_var rfl) (SqT.of hb)) (paired_map l fun _ _ => rfl) (fun _ => true) (fun i y H' => RowAt (W.pc i).1 y H') (fun a y H H' e h => RowAt.t e h) (by omega) (fun _ => by rfl) (fun _ _ _ _ _ _ => et_yes) fun i v H1 e1 hi hv _ => ?_) k
    subst hv
    obtain ⟨vs, v, h1, h2, t', a', rfl, h3, h4⟩ := hps.at (hin i hi)
    exact evp_of (ev_op (ev_op (LWebAt.ps (e1 _ _ ht) (ev_var rfl) ev_c) (ev_var rfl) (rv_ixT (SqT.of (e1 _ _ h1)) h2)) ev_c (rv_ixT (SqT.of (e1 _ _ h3)) (atI_nat (j := 0) rfl))) (RowAt.sta ⟨a', rfl, e1 _ _ h4⟩)
def sp__law_spans : Sp := fun vs H Q _ => ∃ (W : Wb) (wv v : V) (l : List Nat), vs = [wv, v] ∧ LWebAt W wv H ∧ Wok W ∧ LotAt l v H ∧ In W l ∧ l.length ≤ 40 ∧ Ret H (fun u _ => u = .bl (W.F l)) Q
theorem ok__law_spans (E : Env K mg) : FnOk P w K mg base CX0 2 E.d__law_spans.f E.d__law_spans.fd ["_law_web_here", "_law_lot_here"] sp__law_spans := by
  refine E.d__law_spans.F.ok sc__law_spans (fun vs H Q E h => ?_) (fun cdv A outer s H vs Q E' hr h => ?_)
  · obtain ⟨W, wv, v, l, rfl, _⟩ := h
    rfl
  · obtain ⟨W, wv, v, l, rfl, ⟨t, a, rfl, ht, hps⟩, ok, hl, hin, h40, k⟩ := h
    refine ⟨_, PSs.nox (pss_one (ps_ret (pe_cmpR op_eq (pe_call (ok__law_rank E) (hr.mono (by decide)) rfl E.d__law_rank.g E.d__law_rank.F.kp E.d__law_rank.b .nil pass0 (pa_cons (pe_ix ix_tup (pv 0) pe_int (fun _ _ => rfl)) (pa_cons (pe_call (ok__law_sums E) (hr.mono (by decide)) rfl E.d__law_sums.g E.d__law_sums.F.kp E.d__law_sums.b .nil pass0 (pa_cons (pv 0) (pa_cons (pv 1) pa_nil))) pa_nil))) (pe_ix ix_tup (pv 0) pe_int (fun _ _ => rfl)) (nomark _)))), ?_⟩
    refine s_retP (evp_opP (P := fun u _ => ∃ r : Nat, u = nV r ∧ (r = W.n ↔ Mth.Full W.p W.n (W.rows l))) (fun H1 e1 Q1 r1 => LWebAt.p (K := K) (W := W) (e1 _ _ ht) (ev_var (i := 0) (v := .ref t) rfl) ev_c H1 (Ex.refl _) _ fun H2 e2 => ⟨_, rfl, _, rfl, W, .ref t, v, l, rfl, ⟨t, a, rfl, e2 _ _ (e1 _ _ ht), hps.t (Ex.t (e1.trans e2))⟩, hl.t (Ex.t (e1.trans e2)), hin, h40, fun sv H3 e3 ps => ?_⟩) (LWebAt.n ht (ev_var rfl) ev_c) fun u H1 e1 pu Q1 r1 => ?_) k
    · obtain ⟨sp, sys, rfl, _, hsp, hsys⟩ := ps.now
      refine ⟨W.p, W.n, sp, sys, W.rows l, rfl, SqL.of hsp, paired_mapl hsys, fun r hr2 => ?_, ok.p2, ok.p251, ok.inv, ok.n10, by unfold Wb.rows; rw [List.length_map]; exact h40, r1.back (e2.trans e3)⟩
      obtain ⟨i, hi, rfl⟩ := List.mem_map.mp hr2
      exact (ok.pc (hin i hi)).row
    · obtain ⟨r, rfl, hr2⟩ := pu.now
      refine ⟨rfl, ?_⟩
      have e : decide (nV r = nV W.n) = W.F l := by
        by_cases hF : W.F l = true
        · rw [hF, decide_eq_true]
          rw [hr2.mpr ((W.F_iff l).mp hF)]
        · rw [Bool.not_eq_true] at hF
          rw [hF, decide_eq_false]
          intro z
          have z2 : (r : Int) = (W.n : Int) := V.int.inj z
          have z3 : r = W.n := by omega
          rw [(W.F_iff l).mpr (hr2.mp z3)] at hF
          cases hF
      rw [e]
      exact r1.val (Ex.refl _)
def sp__law_size : Sp := fun vs H Q _ => ∃ (W : Wb) (wv v : V) (l : List Nat), vs = [wv, v] ∧ LWebAt W wv H ∧ LotAt l v H ∧ In W l ∧ l.length ≤ 40 ∧ Ret H (fun x _ => x = .int (W.size l)) Q
theorem ok__law_size (E : Env K mg) : FnOk P w K mg base CX0 1 E.d__law_size.f E.d__law_size.fd ["_law_web_here", "_law_lot_here"] sp__law_size := by
  refine E.d__law_size.F.ok sc__law_size (fun vs H Q E h => ?_) (fun cdv A outer s H vs Q E' hr h => ?_)
  · obtain ⟨W, wv, v, l, rfl, _⟩ := h
    rfl
  · obtain ⟨W, wv, v, l, rfl, ⟨t, a, rfl, ht, hps⟩, ⟨b, rfl, hb⟩, hin, h40, k⟩ := h
    refine ⟨_, PSs.nox (pss_one (ps_ret (pe_callB (cr_sum rfl) (by rfl) E.f_sum (by decide +kernel) (pa_cons (pe_lc (own := [("_law_piece", 2)]) (g := gName 2) rfl sc__law_size.nd (pi_tup (pv 1)) (blkOk_by (N := n__law_size) (sc := defScope s__law_size) (by decide +kernel)) (fun _ _ _ _ _ => (pg_name (i := 2) sc__law_size.nd rfl (by first | exact Or.inl rfl | exact Or.inr rfl))) (fun _ _ _ _ _ => pts_nil) (fun _ _ _ _ _ => (pe_ix (kx_tup (K := K) (by rfl)) (pe_ix (kx_tup (K := K) (by rfl)) (pe_ix (kx_tup (K := K) (by rfl)) (pv 0) pe_int (fun _ _ => rfl)) (pv 2) (fun _ _ => rfl)) pe_int (fun _ _ => rfl)))) pa_nil)))), ?_⟩
    refine s_ret (ev_sum (lc_mapW (as := l) (rep := nV) (ei_tup (ev_var rfl) (SqT.of hb)) V.int (fun i => (W.pc i).2) (by omega) (fun _ => by rfl) fun i H1 e1 hi => ?_)) fun H1 e1 => k.val e1
    obtain ⟨vs, v, h1, h2, t', a', rfl, h3, h4⟩ := hps.at (hin i hi)
    exact ev_op (ev_op (LWebAt.ps (e1 _ _ ht) (ev_var rfl) ev_c) (ev_var rfl) (rv_ixT (SqT.of (e1 _ _ h1)) h2)) ev_c (rv_ixT (SqT.of (e1 _ _ h3)) (atI_nat (j := 1) rfl))
theorem ok__law_left (E : Env K mg) : FnOk P w K mg base CX0 1 E.d__law_left.f E.d__law_left.fd ["_law_lot_here", "_law_lost"] sp_left_of := by
  refine E.d__law_left.F.ok sc__law_left (fun vs H Q E h => ?_) (fun cdv A outer s H vs Q E' hr h => ?_)
  · obtain ⟨u, v, l, s, rfl, _⟩ := h
    rfl
  · obtain ⟨u, v, l, s, rfl, ⟨a, rfl, ha⟩, ⟨b, rfl, hb⟩, h40, k⟩ := h
    refine ⟨_, PSs.nox (pss_one (ps_ret (pe_tupleOf rfl E.f_tuple (pe_lc (own := [("_law_piece", 2)]) (g := gName 2) rfl sc__law_left.nd (pi_tup (pv 0)) (blkOk_by (N := n__law_left) (sc := defScope s__law_left) (by decide +kernel)) (fun _ _ _ _ _ => (pg_name (i := 2) sc__law_left.nd rfl (by first | exact Or.inl rfl | exact Or.inr rfl))) (fun _ _ _ _ _ => (pts_one (pt_cmpR (kx_notIn (K := K) (by rfl)) (pv 2) (pv 1) rfl))) (fun _ _ _ _ _ => (pv 2)))))), ?_⟩
    refine s_retP (evp_tupP (lc_fmap (as := l) (rep := nV) (ei_tup (ev_var rfl) (SqT.of ha)) (fun i => !decide (i ∈ s)) nV (by omega) (fun _ => by rfl) (fun i H1 e1 hi => ?_) fun i H1 e1 hi _ => ev_var rfl)) k
    have h := rv_niT (K := K) (x := nV i) (SqT.of (e1 _ _ hb)) rfl (flat_n s)
    rw [inV_n] at h
    exact et_test (ev_op (ev_var rfl) (ev_var rfl) h)
end
end Wk
end

section
set_option Elab.async false
set_option linter.all false
set_option maxRecDepth 100000
set_option maxHeartbeats 2000000
namespace Wk
open PySem PySem.Spec PyProof.Rows L2 Evl Rk
section
variable {K : PySem.W.Frag} {base : Heap} {mg : Str → Option Value} {P : Program} {w : World}
/-! ### the deck -/
def DeckAt (d sc : Addr) (H : Hp) : Prop := ∃ (cells : List Int) (i : Nat) (b t sd : Int), H d = some (.lst [.ref sc, nV i, .int b, .int t, .int sd]) ∧ H sc = some (.lst (cells.map V.int)) ∧ 0 ≤ b ∧ sc ≠ d
theorem DeckAt.on {d sc : Addr} {H H' : Hp} (e : Ex H H') (h : DeckAt d sc H) : DeckAt d sc H' := by
  obtain ⟨cells, i, b, t, sd, h1, h2, h3⟩ := h
  exact ⟨cells, i, b, t, sd, e _ _ h1, e _ _ h2, h3⟩
def sp__law_deck (K : PySem.W.Frag) : Sp := fun vs H Q _ => ∃ (a : Addr) (ns : List Int), vs = [.ref a] ∧ SqL K H a (ns.map V.int) ∧ ns.length ≤ 1000 ∧ Ret H (fun v H' => ∃ d sc, v = .ref d ∧ DeckAt d sc H') Q
theorem ok__law_deck (E : Env K mg) : FnOk P w K mg base CX0 1 E.d__law_deck.f E.d__law_deck.fd ["_law_script"] (sp__law_deck K) := by
  refine E.d__law_deck.F.ok sc__law_deck (fun vs H Q E h => ?_) (fun cdv A outer s H vs Q E' hr h => ?_)
  · obtain ⟨a, ns, rfl, _⟩ := h
    rfl
  · obtain ⟨a, ns, rfl, ha, hn, k⟩ := h
    refine ⟨_, PSs.nox (pss_cons (ps_set (i := 1) sc__law_deck.nd rfl (by first | exact Or.inl rfl | exact Or.inr rfl) pe_int) (pss_cons (ps_for PassesOwn.never rfl (pi_list (pv 0)) (pg_name (i := 2) sc__law_deck.nd rfl (by first | exact Or.inl rfl | exact Or.inr rfl)) (pss_one (ps_set (i := 1) sc__law_deck.nd rfl (by first | exact Or.inl rfl | exact Or.inr rfl) (pe_op op_mod (pe_callTy call_int1 (by rfl) E.f_int (by decide +kernel) (pa_cons (pe_op op_add (pe_op op_mul (pv 1) pe_int) (pv 2)) pa_nil)) pe_int)))) (pss_one (ps_ret (pe_lst (pa_cons (pe_callTy call_list_of (by rfl) E.f_list (by decide +kernel) (pa_cons (pv 0) pa_nil)) (pa_cons pe_int (pa_cons pe_int (pa_cons pe_int (pa_cons (pv 1) pa_nil)))))))))), ?_⟩
    refine q_asg (v := .int 1) ev_c fun H1 e1 => ?_
    refine q_forLn (ev_var rfl) (ex_l e1 ha) (fun i σ H' => ∃ sd u, σ = [some (.ref a), some (.int sd), u] ∧ Ex H H' ∧ 0 ≤ sd ∧ sd < 998244353) (fun H2 e2 => ⟨1, none, rfl, e1.trans e2, by omega, by omega⟩) (fun i σ' H' _ h => ?_) (fun i x σ' H' hi h => ?_) fun σ' H' h => ?_
    · obtain ⟨_, _, _, e, _⟩ := h
      exact ex_l e ha
    · obtain ⟨sd, u, rfl, e, s0, s1⟩ := h
      rw [List.getElem?_map] at hi
      cases hni : ns[i]? with
      | none =>
        rw [hni] at hi
        cases hi
      | some c =>
        rw [hni] at hi
        obtain rfl : V.int c = x := Option.some.inj hi
        obtain ⟨m0, m1⟩ := mod_bounds (x := sd * 1000003 + c) (p := 998244353) (by omega)
        exact s_asg (ev_op (ev_int1 (ev_op (ev_op (ev_var rfl) ev_c (rv_I (.inl ⟨by omega, by omega⟩))) (ev_var rfl) rv_I0)) ev_c (rv_mod (by omega))) fun H2 e2 => ⟨_, _, rfl, e.trans e2, m0, m1⟩
    · obtain ⟨sd, u, rfl, e, s0, s1⟩ := h
      have ha' := ex_l e ha
      refine ⟨_, rfl, a, _, rfl, .inl ha', fun sc nsc => ⟨_, rfl, by show 5 ≤ sizeLine; decide, fun d nd => k _ _ (e.trans ((Ex.new nsc).trans (Ex.new nd))) fun H3 e3 => ?_⟩⟩
      exact ⟨d, sc, rfl, ns, 0, 0, 0, sd, e3 _ _ upd_same, e3 _ _ (by rw [upd_ne (ne_of_none upd_same nd), upd_same]), Int.le_refl _, ne_of_none upd_same nd⟩
def sp__law_mixed : Sp := fun vs H Q _ => ∃ c t : Int, vs = [.int c, .int t] ∧ Ret H (fun v _ => ∃ x : Int, v = .int x) Q
theorem ok__law_mixed (E : Env K mg) : FnOk P w K mg base CX0 1 E.d__law_mixed.f E.d__law_mixed.fd ["_law_cell", "_law_turn"] sp__law_mixed := by
  refine E.d__law_mixed.F.ok sc__law_mixed (fun vs H Q E h => ?_) (fun cdv A outer s H vs Q E' hr h => ?_)
  · obtain ⟨c, t, rfl, _⟩ := h
    rfl
  · obtain ⟨c, t, rfl, k⟩ := h
    refine ⟨_, PSs.nox (pss_cons (ps_set (i := 2) sc__law_mixed.nd rfl (by first | exact Or.inl rfl | exact Or.inr rfl) (pe_op op_mod (pe_op op_mul (pe_callTy call_int1 (by rfl) E.f_int (by decide +kernel) (pa_cons (pe_op op_add (pe_op op_add (pv 0) (pe_op op_mul pe_int (pv 1))) pe_int) pa_nil)) pe_int) pe_int)) (pss_cons (ps_set (i := 2) sc__law_mixed.nd rfl (by first | exact Or.inl rfl | exact Or.inr rfl) (pe_op op_mod (pe_callTy call_int1 (by rfl) E.f_int (by decide +kernel) (pa_cons (pe_op op_mul (pv 2) (pe_op op_add (pe_op op_fdiv (pv 2) pe_int) pe_int)) pa_nil)) pe_int)) (pss_cons (ps_set (i := 2) sc__law_mixed.nd rfl (by first | exact Or.inl rfl | exact Or.inr rfl) (pe_op op_mod (pe_callTy call_int1 (by rfl) E.f_int (by decide +kernel) (pa_cons (pe_op op_mul (pv 2) (pe_op op_add (pe_op op_add (pe_op op_fdiv (pv 2) pe_int) pe_int) (pv 1))) pa_nil)) pe_int)) (pss_one (ps_ret (pe_op op_fdiv (pv 2) pe_int)))))), ?_⟩
    refine q_asg (ev_op (ev_op (ev_int1 (ev_op (ev_op (ev_var rfl) (ev_op ev_c (ev_var rfl) (rv_I (.inl ⟨by omega, by omega⟩))) rv_I0) ev_c rv_I0)) ev_c (rv_I (.inr ⟨by omega, by omega⟩))) ev_c (rv_mod (by omega))) fun H1 e1 => ?_
    generalize hn1 : (c + 7919 * t + 1) * 48271 % 2147483647 = n1
    obtain ⟨a0, a1⟩ := mod_bounds (x := (c + 7919 * t + 1) * 48271) (p := 2147483647) (by omega)
    rw [hn1] at a0 a1
    refine q_asg (ev_op (ev_int1 (ev_op (ev_var rfl) (ev_op (ev_op (ev_var rfl) ev_c (rv_I ⟨by omega, by omega⟩)) ev_c rv_I0) (rv_I (.inl ⟨by omega, by omega⟩)))) ev_c (rv_mod (by omega))) fun H2 e2 => ?_
    generalize hn2 : n1 * (n1 / 1009 + 69621) % 2147483647 = n2
    obtain ⟨b0, b1⟩ := mod_bounds (x := n1 * (n1 / 1009 + 69621)) (p := 2147483647) (by omega)
    rw [hn2] at b0 b1
    refine q_asg (ev_op (ev_int1 (ev_op (ev_var rfl) (ev_op (ev_op (ev_op (ev_var rfl) ev_c (rv_I ⟨by omega, by omega⟩)) ev_c rv_I0) (ev_var rfl) rv_I0) (rv_I (.inl ⟨by omega, by omega⟩)))) ev_c (rv_mod (by omega))) fun H3 e3 => ?_
    exact s_ret (ev_op (ev_var rfl) ev_c (rv_I ⟨by omega, by omega⟩)) fun H4 e4 => k _ H4 (((e1.trans e2).trans e3).trans e4) fun _ _ => ⟨_, rfl⟩
/-- a draw: the deck alone changes -/
def sp__law_draw : Sp := fun vs H Q _ => ∃ (d sc : Addr) (m : Int), vs = [.ref d, .int m] ∧ DeckAt d sc H ∧ 0 < m ∧ m < 1073741824 ∧ ∀ (x : Int) H', Ex (rm H d) H' → DeckAt d sc H' → 0 ≤ x → x < m → Q (.int x) H'
theorem dk_at {sc : Addr} {i : Nat} {b t sd : Int} {j : Nat} {v : V} (h : [V.ref sc, nV i, .int b, .int t, .int sd][j]? = some v) : atI [V.ref sc, nV i, .int b, .int t, .int sd] (j : Int) = some v := atI_nat h
theorem ok__law_draw (E : Env K mg) : FnOk P w K mg base CX0 2 E.d__law_draw.f E.d__law_draw.fd ["_law_deck_here", "_law_many"] sp__law_draw := by
  refine E.d__law_draw.F.ok sc__law_draw (fun vs H Q E h => ?_) (fun cdv A outer s H vs Q E' hr h => ?_)
  · obtain ⟨d, sc, m, rfl, _⟩ := h
    rfl
  · obtain ⟨d, sc, m, rfl, ⟨cells, i, b, t, sd, hd, hsc, b0, ne⟩, m0, m1, k⟩ := h
    refine ⟨_, PSs.nox (pss_cons (ps_asg (pe_op op_add (pe_ix ix_list (pv 0) pe_int (fun _ _ => rfl)) pe_int) (pg_sub (pv 0) pe_int set_list)) (pss_cons (ps_if (PW.pt (pw_and (pt_cmpR op_eq (pe_ix ix_list (pv 0) pe_int (fun _ _ => rfl)) pe_int (nomark _)) (pw_and1 (pt_cmpR op_lt (pe_ix ix_list (pv 0) pe_int (fun _ _ => rfl)) (pe_callB call_len_seq (by rfl) E.f_len (by decide +kernel) (pa_cons (pe_ix ix_list (pv 0) pe_int (fun _ _ => rfl)) pa_nil)) (nomark _))))) (pss_cons (ps_set (i := 2) sc__law_draw.nd rfl (by first | exact Or.inl rfl | exact Or.inr rfl) (pe_ix ix_list (pe_ix ix_list (pv 0) pe_int (fun _ _ => rfl)) (pe_ix ix_list (pv 0) pe_int (fun _ _ => rfl)) (fun _ _ => rfl))) (pss_cons (ps_asg (pe_op op_add (pe_ix ix_list (pv 0) pe_int (fun _ _ => rfl)) pe_int) (pg_sub (pv 0) pe_int set_list)) (pss_cons (ps_if (pt_chain op_lt op_lt (pe_un un_neg (pe_op op_pow pe_int pe_int)) (pv 2) (pe_op op_pow pe_int pe_int)) (pss_one (ps_ret (pe_op op_mod (pe_callTy call_int1 (by rfl) E.f_int (by decide +kernel) (pa_cons (pe_call (ok__law_mixed E) (hr.mono (by decide)) rfl E.d__law_mixed.g E.d__law_mixed.F.kp E.d__law_mixed.b .nil pass0 (pa_cons (pv 2) (pa_cons (pe_ix ix_list (pv 0) pe_int (fun _ _ => rfl)) pa_nil))) pa_nil)) (pv 1)))) pss_nil) (pss_one (ps_asg (pe_callB call_abs (by rfl) E.f_abs (by decide +kernel) (pa_cons (pv 2) pa_nil)) (pg_sub (pv 0) pe_int set_list)))))) pss_nil) (pss_cons (ps_if (pt_cmpR op_gt (pe_ix ix_list (pv 0) pe_int (fun _ _ => rfl)) pe_int (nomark _)) (pss_cons (ps_set (i := 3) sc__law_draw.nd rfl (by first | exact Or.inl rfl | exact Or.inr rfl) (pe_op op_mod (pe_callTy call_int1 (by rfl) E.f_int (by decide +kernel) (pa_cons (pe_ix ix_list (pv 0) pe_int (fun _ _ => rfl)) pa_nil)) (pv 1))) (pss_cons (ps_asg (pe_op op_fdiv (pe_ix ix_list (pv 0) pe_int (fun _ _ => rfl)) (pv 1)) (pg_sub (pv 0) pe_int set_list)) (pss_one (ps_ret (pv 3))))) pss_nil) (pss_one (ps_ret (pe_op op_mod (pe_callTy call_int1 (by rfl) E.f_int (by decide +kernel) (pa_cons (pe_call (ok__law_mixed E) (hr.mono (by decide)) rfl E.d__law_mixed.g E.d__law_mixed.F.kp E.d__law_mixed.b .nil pass0 (pa_cons (pe_ix ix_list (pv 0) pe_int (fun _ _ => rfl)) (pa_cons (pe_ix ix_list (pv 0) pe_int (fun _ _ => rfl)) pa_nil))) pa_nil)) (pv 1))))))), ?_⟩
    have ix : ∀ {H0 : Hp} {σ : L2.St} {te ti : TE} {i' : Nat} {b' t' sd' : Int} {j : Nat} {v : V}, H0 d = some (.lst [.ref sc, nV i', .int b', .int t', .int sd']) → Ev te σ H0 (.ref d) → Ev ti σ H0 (.int (j : Int)) → [V.ref sc, nV i', .int b', .int t', .int sd'][j]? = some v → Ev (tOp (rIxL K) te ti) σ H0 v :=
      fun h1 h2 h3 h4 => ev_op h2 h3 (rv_ixL (SqL.of h1) (atI_nat h4))
    -- what is left, whatever was drawn from
    have fin : ∀ {H0 : Hp} {σ : L2.St} {x m' : Int} {te : TE}, Ex (rm H d) H0 → DeckAt d sc H0 → EvP te σ H0 (fun v _ => ∃ x : Int, v = .int x) → σ[1]? = some (some (.int m)) → tRet (tOp (rI (fun _ j => 0 < j) fun i j => .int (i % j)) (tCB rInt1 (tCons te tNil)) (tVar 1)) { nx := fun _ H' => Q .non H', rt := Q } σ H0 := by
      intro H0 σ x m' te eH dk ht h1
      refine s_retP (P := fun v _ => ∃ x : Int, v = .int x ∧ 0 ≤ x ∧ x < m) (evp_opP (P := fun v _ => ∃ x : Int, v = .int x) (ev_cb1 ht fun v H1 e1 pv Q1 r1 => ?_) (ev_var h1) fun u H1 e1 pu Q1 r1 => ?_) fun v H1 e1 pv => ?_
      · obtain ⟨x, rfl⟩ := pv.now
        exact .inl ⟨x, rfl, r1 _ _ (Ex.refl _) fun _ _ => ⟨x, rfl⟩⟩
      · obtain ⟨x, rfl⟩ := pu.now
        obtain ⟨z0, z1⟩ := mod_bounds (x := x) m0
        exact ⟨x, m, rfl, rfl, m0, r1 _ _ (Ex.refl _) fun _ _ => ⟨_, rfl, z0, z1⟩⟩
      · obtain ⟨x, rfl, x0, x1⟩ := pv.now
        exact k x H1 (eH.trans e1) (dk.on e1) x0 x1
    -- the rest behind the script's cells
    have rest : ∀ {H0 : Hp} {σ : L2.St} {i' : Nat} {b' t' sd' : Int}, Ex (rm H d) H0 → H0 d = some (.lst [.ref sc, nV i', .int b', .int t', .int sd']) → H0 sc = some (.lst (cells.map V.int)) → 0 ≤ b' → ∀ u2 u3, σ = [some (.ref d), some (.int m), u2, u3] →
        tSeq (tIfS (tTest (tOp (rI0 fun i j => .bl (decide (j < i))) (tOp (rIxL K) (tVar 0) (tC (.int 2))) (tC (.int 0)))) (tSeq (tAsg (tOp (rI (fun _ j => 0 < j) fun i j => .int (i % j)) (tCB rInt1 (tCons (tOp (rIxL K) (tVar 0) (tC (.int 2))) tNil)) (tVar 1)) (gName 3))
          (tSeq (tAsg (tOp (rI CDiv fun i j => .int (i / j)) (tOp (rIxL K) (tVar 0) (tC (.int 2))) (tVar 1)) (gSub (tVar 0) (tC (.int 2)) rSetL)) (tRet (tVar 3)))) tNext)
          (tRet (tOp (rI (fun _ j => 0 < j) fun i j => .int (i % j)) (tCB rInt1 (tCons (tCall sp__law_mixed [] E0 (tCons (tOp (rIxL K) (tVar 0) (tC (.int 4))) (tCons (tOp (rIxL K) (tVar 0) (tC (.int 3))) tNil))) tNil)) (tVar 1))) { nx := fun _ H' => Q .non H', rt := Q } σ H0 := by
      rintro H0 σ i' b' t' sd' eH h1 h2 hb u2 u3 rfl
      refine q_when (b := decide (0 < b')) (et_test (ev_op (ix (j := 2) h1 (ev_var rfl) ev_c rfl) ev_c rv_I0)) (fun hp H1 e1 => ?_) fun hp H1 e1 => ?_
      · have h1' := e1 _ _ h1
        refine q_asg (ev_op (ev_int1 (ix (j := 2) h1' (ev_var rfl) ev_c rfl)) (ev_var rfl) (rv_mod m0)) fun H2 e2 => ?_
        have h2' := e2 _ _ h1'
        refine q_setL (j := 2) h2' (ev_op (ix (j := 2) h2' (ev_var rfl) ev_c rfl) (ev_var rfl) (rv_I ⟨m0, m1⟩)) (ev_var rfl) ev_c (by show 2 < 5; decide) fun H3 e3 => ?_
        obtain ⟨z0, z1⟩ := mod_bounds (x := b') m0
        refine ⟨_, rfl, k _ _ (Ex.mut (eH.trans (e1.trans (e2.trans e3))) rm_same) ⟨cells, i', b' / m, t', sd', upd_same, ?_, Int.ediv_nonneg hb (Int.le_of_lt m0), ne⟩ z0 z1⟩
        rw [upd_ne ne]
        exact e3 _ _ (e2 _ _ (e1 _ _ h2))
      · have h1' := e1 _ _ h1
        exact fin (x := 0) (m' := 0) (eH.trans e1) ⟨cells, i', b', t', sd', h1', e1 _ _ h2, hb, ne⟩ (ev_callA (ea_cons (ix (j := 4) h1' (ev_var rfl) ev_c rfl) (ea_cons (ix (j := 3) h1' (ev_var rfl) ev_c rfl) ea_nil)) fun H2 e2 Q2 r2 => ⟨sd', t', rfl, r2⟩) rfl
    refine q_setL (j := 3) hd (ev_op (ix (j := 3) hd (ev_var rfl) ev_c rfl) ev_c rv_I0) (ev_var rfl) ev_c (by show 3 < 5; decide) fun H1 e1 => ?_
    have hd1 : (upd H1 d (.lst ([V.ref sc, nV i, .int b, .int t, .int sd].set 3 (.int (t + 1))))) d = some (.lst [.ref sc, nV i, .int b, .int (t + 1), .int sd]) := upd_same
    have hsc1 : (upd H1 d (.lst ([V.ref sc, nV i, .int b, .int t, .int sd].set 3 (.int (t + 1))))) sc = some (.lst (cells.map V.int)) := by
      rw [upd_ne ne]
      exact e1 _ _ hsc
    have eH1 : Ex (rm H d) (upd H1 d (.lst ([V.ref sc, nV i, .int b, .int t, .int sd].set 3 (.int (t + 1))))) := Ex.mut (rm_ex.trans e1) rm_same
    generalize upd H1 d (.lst ([V.ref sc, nV i, .int b, .int t, .int sd].set 3 (.int (t + 1)))) = H2 at hd1 hsc1 eH1
    refine q_when (b := decide (b = 0) && decide (i < cells.length)) (et_and (et_test (ev_is (ev_op (ix (j := 2) hd1 (ev_var rfl) ev_c rfl) ev_c (rv_eq rfl)) ?_)) fun _ => et_test (ev_is (ev_op (ix (j := 1) hd1 (ev_var rfl) ev_c rfl) (ev_lenS (ix (j := 0) hd1 (ev_var rfl) ev_c rfl) (.inl (SqL.of hsc1))) rv_I0) ?_)) (fun hb H3 e3 => ?_) fun hb H3 e3 => ?_
    · refine congrArg V.bl ?_
      by_cases z : b = 0
      · rw [decide_eq_true z, decide_eq_true (by rw [z])]
      · rw [decide_eq_false z, decide_eq_false (fun y => z (V.int.inj y))]
    · rw [List.length_map]
      refine congrArg V.bl ?_
      by_cases z : i < cells.length
      · rw [decide_eq_true z, decide_eq_true (by omega)]
      · rw [decide_eq_false z, decide_eq_false (by omega)]
    · obtain ⟨z1, z2⟩ := Bool.and_eq_true_iff.mp hb
      have hb0 := of_decide_eq_true z1
      have hil := of_decide_eq_true z2
      have hd3 := e3 _ _ hd1
      have hsc3 := e3 _ _ hsc1
      have eH3 := eH1.trans e3
      have hcell : (cells.map V.int)[i]? = some (.int (cells.getD i 0)) := getD_map hil
      refine q_asg (ev_op (ix (j := 0) hd3 (ev_var rfl) ev_c rfl) (ix (j := 1) hd3 (ev_var rfl) ev_c rfl) (rv_ixL (SqL.of hsc3) (atI_nat hcell))) fun H4 e4 => ?_
      have hd4 := e4 _ _ hd3
      refine q_setL (j := 1) hd4 (ev_op (ix (j := 1) hd4 (ev_var rfl) ev_c rfl) ev_c rv_I0) (ev_var rfl) ev_c (by show 1 < 5; decide) fun H5 e5 => ?_
      have hd5 : (upd H5 d (.lst ([V.ref sc, nV i, .int b, .int (t + 1), .int sd].set 1 (.int ((i : Int) + 1))))) d = some (.lst [.ref sc, nV (i + 1), .int b, .int (t + 1), .int sd]) := by
        rw [upd_same]
        rfl
      have hsc5 : (upd H5 d (.lst ([V.ref sc, nV i, .int b, .int (t + 1), .int sd].set 1 (.int ((i : Int) + 1))))) sc = some (.lst (cells.map V.int)) := by
        rw [upd_ne ne]
        exact e5 _ _ (e4 _ _ hsc3)
      have eH5 : Ex (rm H d) (upd H5 d (.lst ([V.ref sc, nV i, .int b, .int (t + 1), .int sd].set 1 (.int ((i : Int) + 1))))) := Ex.mut (eH3.trans (e4.trans e5)) rm_same
      generalize upd H5 d (.lst ([V.ref sc, nV i, .int b, .int (t + 1), .int sd].set 1 (.int ((i : Int) + 1)))) = H6 at hd5 hsc5 eH5
      refine q_when (b := decide ((-(10 ^ 18 : Int)) < cells.getD i 0) && decide (cells.getD i 0 < 10 ^ 18)) (et_test (ev_chain (z := .int (10 ^ 18)) (ev_un (ev_op ev_c ev_c (rv_I (i := 10) (j := 18) ⟨by decide, by decide, by decide⟩)) ru_neg) (ev_var rfl) rv_I0 (fun _ => ev_op ev_c ev_c (rv_I (i := 10) (j := 18) ⟨by decide, by decide, by decide⟩)) fun _ => rv_I0)) (fun _ H7 e7 => ?_) fun _ H7 e7 => ?_
      · have hd7 := e7 _ _ hd5
        exact fin (x := 0) (m' := 0) (eH5.trans e7) ⟨cells, _, _, _, _, hd7, e7 _ _ hsc5, b0, ne⟩ (ev_callA (ea_cons (ev_var rfl) (ea_cons (ix (j := 3) hd7 (ev_var rfl) ev_c rfl) ea_nil)) fun H8 e8 Q8 r8 => ⟨_, _, rfl, r8⟩) rfl
      · have hd7 := e7 _ _ hd5
        refine s_setL (j := 2) (v := .int (if cells.getD i 0 < 0 then -(cells.getD i 0) else cells.getD i 0)) hd7 (fun H8 e8 Q8 q8 => ⟨_, rfl, _, rfl, q8 H8 (Ex.refl _)⟩) (ev_var rfl) ev_c (by show 2 < 5; decide) fun H8 e8 => ?_
        refine rest (Ex.mut (eH5.trans (e7.trans e8)) rm_same) (i' := i + 1) (b' := if cells.getD i 0 < 0 then -(cells.getD i 0) else cells.getD i 0) (t' := t + 1) (sd' := sd) upd_same ?_ ?_ _ _ rfl
        · rw [upd_ne ne]
          exact e8 _ _ (e7 _ _ hsc5)
        · split <;> omega
    · exact rest (eH1.trans e3) (e3 _ _ hd1) (e3 _ _ hsc1) b0 _ _ rfl
end
end Wk
end

section
set_option Elab.async false
set_option linter.all false
set_option maxRecDepth 100000
set_option maxHeartbeats 2000000
namespace Wk
open PySem PySem.Spec PyProof.Rows L2 Evl Rk
theorem rm_in {H H1 : Hp} {d : Addr} (e : Ex (rm H d) H1) : Ex (rm H d) (rm H1 d) := fun a o h => by
  have hn : a ≠ d := fun z => by
    rw [z, rm_same] at h
    cases h
  rw [rm_ne hn]
  exact e a o h
theorem dtr {H H1 H2 : Hp} {d : Addr} (e1 : Ex (rm H d) H1) (e2 : Ex (rm H1 d) H2) : Ex (rm H d) H2 := (rm_in e1).trans e2
theorem DeckAt.t {d sc : Addr} {H H1 : Hp} (dk : DeckAt d sc H) (e : Ex (rm H d) H1) : ExT H H1 := fun a o h ht => by
  obtain ⟨_, _, _, _, _, h1, _⟩ := dk
  refine e a o ?_
  rw [rm_ne]
  · exact h
  · intro z
    rw [z, h1] at h
    rw [← Option.some.inj h] at ht
    cases ht
theorem DeckAt.upd {d sc l : Addr} {H : Hp} {o : HO} (dk : DeckAt d sc H) (h1 : l ≠ d) (h2 : l ≠ sc) : DeckAt d sc (upd H l o) := by
  obtain ⟨cells, i, b, t, sd, a1, a2, a3⟩ := dk
  exact ⟨cells, i, b, t, sd, by rw [upd_ne h1.symm]; exact a1, by rw [upd_ne h2.symm]; exact a2, a3⟩
theorem DeckAt.ne {d sc l : Addr} {H : Hp} (dk : DeckAt d sc H) (h : H l = none) : l ≠ d ∧ l ≠ sc := by
  obtain ⟨cells, i, b, t, sd, a1, a2, a3⟩ := dk
  exact ⟨(ne_of_none a1 h).symm, (ne_of_none a2 h).symm⟩
theorem dkeep {d a : Addr} {H H1 : Hp} {o : HO} (e : Ex (rm H d) H1) (h : H a = some o) (hn : a ≠ d) : H1 a = some o := e a o (by rw [rm_ne hn]; exact h)
theorem dfresh {d a : Addr} {H H1 : Hp} (e : Ex (rm H d) H1) (h : H1 a = none) (hn : a ≠ d) : H a = none := by
  cases q : H a with
  | none => rfl
  | some o =>
    rw [dkeep e q hn] at h
    cases h
/-! ### the primes that are drawn -/
def primeB (p : Nat) : Bool := (List.range p).all fun x => x == 0 || (List.range p).any fun d => d * x % p == 1
def primeC (p : Nat) : Bool := (List.range p).all fun o => decide (o < 2) || p % o != 0
structure PrOk (p : Int) : Prop where
  p2 : 2 ≤ p
  p251 : p ≤ 251
  pr : ∀ o : Int, 2 ≤ o → o < p → p % o ≠ 0
  inv : Mth.Inv p
theorem prOk {n : Nat} (h1 : 2 ≤ n) (h2 : n ≤ 251) (hb : primeB n = true) (hc : primeC n = true) : PrOk (n : Int) := by
  refine ⟨by omega, by omega, fun o o2 o1 => ?_, fun x x0 x1 => ?_⟩
  · unfold primeC at hc
    have q := List.all_eq_true.mp hc o.toNat (List.mem_range.mpr (by omega))
    rw [decide_eq_false (by omega), Bool.false_or] at q
    intro z
    have e : (n : Int) % o = ((n % o.toNat : Nat) : Int) := by
      rw [Int.natCast_emod]
      congr 1
      omega
    rw [e] at z
    have z2 : n % o.toNat = 0 := by omega
    rw [z2] at q
    cases q
  · unfold primeB at hb
    have q := List.all_eq_true.mp hb x.toNat (List.mem_range.mpr (by omega))
    rw [show (x.toNat == 0) = false by simp; omega, Bool.false_or] at q
    obtain ⟨d, hd, hd2⟩ := List.any_eq_true.mp q
    have hd3 : d * x.toNat % n = 1 := by simpa using hd2
    have hdn := List.mem_range.mp hd
    have dpos : d ≠ 0 := fun z => by
      rw [z, Nat.zero_mul, Nat.zero_mod] at hd3
      cases hd3
    refine ⟨(d : Int), by omega, by omega, ?_⟩
    have e : (d : Int) * x % (n : Int) = ((d * x.toNat % n : Nat) : Int) := by
      rw [Int.natCast_emod, Int.natCast_mul]
      congr 2
      omega
    rw [e, hd3]
    rfl
theorem pr2 : PrOk 2 := prOk (n := 2) (by decide) (by decide) (by decide +kernel) (by decide +kernel)
theorem pr3 : PrOk 3 := prOk (n := 3) (by decide) (by decide) (by decide +kernel) (by decide +kernel)
theorem pr5 : PrOk 5 := prOk (n := 5) (by decide) (by decide) (by decide +kernel) (by decide +kernel)
theorem pr7 : PrOk 7 := prOk (n := 7) (by decide) (by decide) (by decide +kernel) (by decide +kernel)
theorem pr251 : PrOk 251 := prOk (n := 251) (by decide) (by decide) (by decide +kernel) (by decide +kernel)
theorem prime_at {x : Int} (h0 : 0 ≤ x) (h1 : x < 6) : ∃ p, atI [V.int 2, V.int 2, V.int 3, V.int 5, V.int 7, V.int 251] x = some (.int p) ∧ PrOk p := by
  have h : x = 0 ∨ x = 1 ∨ x = 2 ∨ x = 3 ∨ x = 4 ∨ x = 5 := by omega
  rcases h with rfl | rfl | rfl | rfl | rfl | rfl
  · exact ⟨2, rfl, pr2⟩
  · exact ⟨2, rfl, pr2⟩
  · exact ⟨3, rfl, pr3⟩
  · exact ⟨5, rfl, pr5⟩
  · exact ⟨7, rfl, pr7⟩
  · exact ⟨251, rfl, pr251⟩
section
variable {K : PySem.W.Frag} {base : Heap} {mg : Str → Option Value} {P : Program} {w : World}
def sp__law_sum : Sp := fun vs H Q _ => ∃ (d sc : Addr) (p : Int) (n : Nat), vs = [.ref d, .int p, nV n] ∧ DeckAt d sc H ∧ 2 ≤ p ∧ p ≤ 251 ∧ 1 ≤ n ∧ n ≤ 10 ∧ ∀ (v : V) H' (r : List Int), Ex (rm H d) H' → DeckAt d sc H' → RowAt r v H' → Mth.IsRow p n r → (∃ x, x ∈ r ∧ x ≠ 0) → Q v H'
theorem sum_zero : ∀ {r : List Int}, (∀ x, x ∈ r → x = 0) → r.sum = 0
  | [], _ => rfl
  | x :: r, h => by
    rw [List.sum_cons, h x List.mem_cons_self, sum_zero fun y hy => h y (List.mem_cons_of_mem _ hy)] <;> rfl
theorem ok__law_sum (E : Env K mg) : FnOk P w K mg base CX0 3 E.d__law_sum.f E.d__law_sum.fd ["_law_deck_here", "_law_prime", "_law_many"] sp__law_sum := by
  refine E.d__law_sum.F.ok sc__law_sum (fun vs H Q E h => ?_) (fun cdv A outer s H vs Q E' hr h => ?_)
  · obtain ⟨d, sc, p, n, rfl, _⟩ := h
    rfl
  · obtain ⟨d, sc, p, n, rfl, dk, p2, p251, n1, n10, k⟩ := h
    refine ⟨_, PSs.nox (pss_cons (ps_setLc (i := 3) (own := [("_law_k", 4)]) (g := gName 4) rfl sc__law_sum.nd rfl rfl (sw_true rfl rfl rfl (by decide +kernel)) (pi_range1 rfl E.f_range (pa_cons (pv 2) pa_nil)) (blkOk_by (N := n__law_sum) (sc := defScope s__law_sum) (by decide +kernel)) (fun _ _ _ _ _ => (pg_name (i := 4) sc__law_sum.nd rfl (by first | exact Or.inl rfl | exact Or.inr rfl))) (fun _ _ _ _ _ => pts_nil) (fun _ _ _ _ _ => (pe_call (ok__law_draw E) (hr.mono (by decide)) rfl E.d__law_draw.g E.d__law_draw.F.kp E.d__law_draw.b .nil pass0 (pa_cons (pv 0) (pa_cons (pv 1) pa_nil))))) (pss_cons (ps_set (i := 5) sc__law_sum.nd rfl (by first | exact Or.inl rfl | exact Or.inr rfl) (pe_call (ok__law_draw E) (hr.mono (by decide)) rfl E.d__law_draw.g E.d__law_draw.F.kp E.d__law_draw.b .nil pass0 (pa_cons (pv 0) (pa_cons pe_int pa_nil)))) (pss_cons (ps_if (PW.pt (pw_or (pt_cmpR op_eq (pv 5) pe_int (nomark _)) (pw_or1 (pt_cmpR op_eq (pe_callB (cr_sum rfl) (by rfl) E.f_sum (by decide +kernel) (pa_cons (pv 3) pa_nil)) pe_int (nomark _))))) (pss_cons (ps_set (i := 6) sc__law_sum.nd rfl (by first | exact Or.inl rfl | exact Or.inr rfl) (pe_call (ok__law_draw E) (hr.mono (by decide)) rfl E.d__law_draw.g E.d__law_draw.F.kp E.d__law_draw.b .nil pass0 (pa_cons (pv 0) (pa_cons (pv 2) pa_nil)))) (pss_one (ps_setLc (i := 3) (own := [("_law_k", 4)]) (g := gName 4) rfl sc__law_sum.nd rfl rfl (sw_true rfl rfl rfl (by decide +kernel)) (pi_range1 rfl E.f_range (pa_cons (pv 2) pa_nil)) (blkOk_by (N := n__law_sum) (sc := defScope s__law_sum) (by decide +kernel)) (fun _ _ _ _ _ => (pg_name (i := 4) sc__law_sum.nd rfl (by first | exact Or.inl rfl | exact Or.inr rfl))) (fun _ _ _ _ _ => pts_nil) (fun _ _ _ _ _ => (pe_callTy call_int1 (by rfl) E.f_int (by decide +kernel) (pa_cons (pe_cmpR op_eq (pv 4) (pv 6) (nomark _)) pa_nil)))))) pss_nil) (pss_one (ps_ret (pe_tupleOf rfl E.f_tuple (pv 3))))))), ?_⟩
    -- the end: tuple(found)
    have fin : ∀ {H1 : Hp} {σ : L2.St} {fl : Addr} {r : List Int}, Ex (rm H d) H1 → DeckAt d sc H1 → H1 fl = some (.lst (r.map V.int)) → σ[3]? = some (some (.ref fl)) → Mth.IsRow p n r → (∃ x, x ∈ r ∧ x ≠ 0) → tRet (tThen (tVar 3) (kTup K)) { nx := fun _ H' => Q .non H', rt := Q } σ H1 := by
      intro H1 σ fl r e1 dk1 hfl hσ ir nz
      refine ⟨_, hσ, .inl ⟨fl, _, rfl, SqL.of hfl, fun q nq => ?_⟩⟩
      exact k _ _ r (e1.trans (Ex.new nq)) (dk1.on (Ex.new nq)) ⟨q, rfl, upd_same⟩ ir nz
    refine ⟨_, rfl, (n : Int), rfl, by omega, by omega, fun D hD => ?_⟩
    obtain ⟨nDd, nDs⟩ := dk.ne hD
    refine lc_it walk_range (fun i H' => Ex (rm H d) H' ∧ DeckAt d sc H' ∧ ∃ r : List Int, H' D = some (.lst (r.map V.int)) ∧ r.length = i ∧ ∀ x, x ∈ r → 0 ≤ x ∧ x < p) ⟨rm_ex.trans (Ex.new hD), dk.on (Ex.new hD), [], upd_same, rfl, fun _ h => nomatch h⟩ (fun _ _ _ _ => trivial) (fun i y H1 H2 hi h hy => ?_) fun H1 h => ?_
    · obtain ⟨e1, dk1, r, hr1, hr2, hr3⟩ := h
      obtain ⟨rfl, rfl⟩ := hy
      refine ⟨by rfl, ⟨_, rfl, _, rfl, d, sc, p, rfl, dk1, by omega, by omega, fun x H3 e3 dk3 x0 x1 => ?_⟩⟩
      have hD3 := dkeep e3 hr1 nDd
      refine ⟨_, hD3, ?_, Ex.mut (dtr e1 e3) (by rw [rm_ne nDd]; exact hD), dk3.upd nDd nDs, r ++ [x], ?_, ?_, fun z hz => ?_⟩
      · rw [List.length_map, sizeLine_eq]
        omega
      · rw [upd_same, List.map_append]
        rfl
      · rw [List.length_append, hr2]
        rfl
      · rcases List.mem_append.mp hz with hz | hz
        · exact hr3 z hz
        · rw [List.mem_singleton.mp hz]
          exact ⟨x0, x1⟩
    · obtain ⟨e1, dk1, r, hr1, hr2, hr3⟩ := h
      have hr2' : r.length = n := by omega
      refine ⟨_, rfl, d, sc, 3, rfl, dk1, by omega, by omega, fun kd H2 e2 dk2 _ _ => ?_⟩
      have hD2 := dkeep e2 hr1 nDd
      refine q_when (b := decide (kd = 0) || decide (r.sum = 0)) (et_or (et_test (ev_is (ev_op (ev_var rfl) ev_c (rv_eq rfl)) ?_)) fun _ => et_test (ev_is (ev_op (fun H3 e3 Q3 q3 => ⟨_, rfl, D, r, rfl, SqL.of (e3 _ _ hD2), q3 H3 (Ex.refl _)⟩) ev_c (rv_eq (x := .int r.sum) rfl)) ?_)) (fun hb H3 e3 => ?_) fun hb H3 e3 => ?_
      · refine congrArg V.bl ?_
        by_cases z : kd = 0
        · rw [decide_eq_true z, decide_eq_true (by rw [z])]
        · rw [decide_eq_false z, decide_eq_false (fun y => z (V.int.inj y))]
      · refine congrArg V.bl ?_
        by_cases z : r.sum = 0
        · rw [decide_eq_true z, decide_eq_true (by rw [z])]
        · rw [decide_eq_false z, decide_eq_false (fun y => z (V.int.inj y))]
      · refine ⟨_, rfl, _, rfl, d, sc, (n : Int), rfl, dk2.on e3, by omega, by omega, fun at_ H4 e4 dk4 a0 a1 => ?_⟩
        refine s_asgP (lc_mapW (as := List.range n) (rep := nV) (ei_rng1 (ea_cons (ev_var rfl) ea_nil) (by omega)) V.int (fun k => if decide (nV k = V.int at_) then 1 else 0) (by rw [List.length_range]; omega) (fun _ => by rfl) fun k H5 e5 hk => ?_) fun v H5 e5 pv => ?_
        · exact ev_intB (ev_op (ev_var rfl) (ev_var rfl) (rv_eq rfl))
        · obtain ⟨l2, rfl, _, hl2⟩ := pv.now
          refine fin (dtr (dtr e1 (dtr e2 (rm_ex.trans e3))) (e4.trans e5)) (dk4.on e5) hl2 rfl ⟨by rw [List.length_map, List.length_range], fun x hx => ?_⟩ ⟨1, List.mem_map.mpr ⟨at_.toNat, List.mem_range.mpr (by omega), ?_⟩, by decide⟩
          · obtain ⟨k, _, rfl⟩ := List.mem_map.mp hx
            split <;> omega
          · rw [decide_eq_true (show nV at_.toNat = V.int at_ by show V.int ((at_.toNat : Nat) : Int) = _; rw [show ((at_.toNat : Nat) : Int) = at_ by omega])]
            rfl
      · obtain ⟨_, z2⟩ := Bool.or_eq_false_iff.mp hb
        refine fin (dtr e1 (dtr e2 (rm_ex.trans e3))) (dk2.on e3) (e3 _ _ hD2) rfl ⟨hr2', hr3⟩ ?_
        by_cases hz : ∃ x, x ∈ r ∧ x ≠ 0
        · exact hz
        · exact absurd (sum_zero fun x hx => by
            by_cases h0 : x = 0
            · exact h0
            · exact absurd ⟨x, hx, h0⟩ hz) (of_decide_eq_false z2)
end
end Wk
end

section
set_option Elab.async false
set_option linter.all false
set_option maxRecDepth 100000
set_option maxHeartbeats 2000000
namespace Wk
open PySem PySem.Spec PyProof.Rows L2 Evl Rk
section
variable {K : PySem.W.Frag} {base : Heap} {mg : Str → Option Value} {P : Program} {w : World}
theorem five_at {a b x : Int} (h0 : 0 ≤ x) (h1 : x < 7) : ∃ j : Nat, atI [V.int 0, V.int 1, V.int 2, V.int 3, V.int 3, V.int 3, V.int 4] x = some (.int (j : Int)) ∧ j < 5 ∧ ∃ s, atI [V.int 1, V.int 2, V.int 3, V.int a, V.int b] (j : Int) = some (.int s) ∧ (s = 1 ∨ s = 2 ∨ s = 3 ∨ s = a ∨ s = b) := by
  have h : x = 0 ∨ x = 1 ∨ x = 2 ∨ x = 3 ∨ x = 4 ∨ x = 5 ∨ x = 6 := by omega
  rcases h with rfl | rfl | rfl | rfl | rfl | rfl | rfl
  · exact ⟨0, rfl, by decide, 1, rfl, by simp⟩
  · exact ⟨1, rfl, by decide, 2, rfl, by simp⟩
  · exact ⟨2, rfl, by decide, 3, rfl, by simp⟩
  · exact ⟨3, rfl, by decide, a, rfl, by simp⟩
  · exact ⟨3, rfl, by decide, a, rfl, by simp⟩
  · exact ⟨3, rfl, by decide, a, rfl, by simp⟩
  · exact ⟨4, rfl, by decide, b, rfl, by simp⟩
def sp__law_web : Sp := fun vs H Q _ => ∃ (d sc : Addr), vs = [.ref d, .int 4, .int 6] ∧ DeckAt d sc H ∧ ∀ (v : V) H' (W : Wb), Ex (rm H d) H' → DeckAt d sc H' → LWebAt W v H' → Wok W → W.ps.length ≤ 8 → Q v H'
theorem ok__law_web (E : Env K mg) : FnOk P w K mg base CX0 4 E.d__law_web.f E.d__law_web.fd ["_law_deck_here", "_law_most", "_law_more"] sp__law_web := by
  refine E.d__law_web.F.ok sc__law_web (fun vs H Q E h => ?_) (fun cdv A outer s H vs Q E' hr h => ?_)
  · obtain ⟨d, sc, rfl, _⟩ := h
    rfl
  · obtain ⟨d, sc, rfl, dk, k⟩ := h
    refine ⟨_, PSs.nox (pss_cons (ps_set (i := 3) sc__law_web.nd rfl (by first | exact Or.inl rfl | exact Or.inr rfl) (pe_ix ix_list (pe_lst (pa_cons pe_int (pa_cons pe_int (pa_cons pe_int (pa_cons pe_int (pa_cons pe_int (pa_cons pe_int pa_nil))))))) (pe_call (ok__law_draw E) (hr.mono (by decide)) rfl E.d__law_draw.g E.d__law_draw.F.kp E.d__law_draw.b .nil pass0 (pa_cons (pv 0) (pa_cons pe_int pa_nil))) (fun _ _ => rfl))) (pss_cons (ps_set (i := 4) sc__law_web.nd rfl (by first | exact Or.inl rfl | exact Or.inr rfl) (pe_op op_add pe_int (pe_call (ok__law_draw E) (hr.mono (by decide)) rfl E.d__law_draw.g E.d__law_draw.F.kp E.d__law_draw.b .nil pass0 (pa_cons (pv 0) (pa_cons (pv 1) pa_nil))))) (pss_cons (ps_set (i := 5) sc__law_web.nd rfl (by first | exact Or.inl rfl | exact Or.inr rfl) (pe_lst pa_nil)) (pss_cons (ps_for PassesOwn.never rfl (pi_range1 rfl E.f_range (pa_cons (pe_callB (call_max2 rfl) (by rfl) E.f_max (by decide +kernel) (pa_cons pe_int (pa_cons (pe_op op_add (pe_op op_sub (pv 4) pe_int) (pe_call (ok__law_draw E) (hr.mono (by decide)) rfl E.d__law_draw.g E.d__law_draw.F.kp E.d__law_draw.b .nil pass0 (pa_cons (pv 0) (pa_cons (pv 2) pa_nil)))) pa_nil))) pa_nil)) (pg_name (i := 6) sc__law_web.nd rfl (by first | exact Or.inl rfl | exact Or.inr rfl)) (pss_cons (ps_set (i := 7) sc__law_web.nd rfl (by first | exact Or.inl rfl | exact Or.inr rfl) (pe_lst (pa_cons pe_int (pa_cons pe_int (pa_cons pe_int (pa_cons (pe_op op_add pe_int (pe_call (ok__law_draw E) (hr.mono (by decide)) rfl E.d__law_draw.g E.d__law_draw.F.kp E.d__law_draw.b .nil pass0 (pa_cons (pv 0) (pa_cons pe_int pa_nil)))) (pa_cons (pe_op op_sub (pe_op op_pow pe_int pe_int) (pe_call (ok__law_draw E) (hr.mono (by decide)) rfl E.d__law_draw.g E.d__law_draw.F.kp E.d__law_draw.b .nil pass0 (pa_cons (pv 0) (pa_cons pe_int pa_nil)))) pa_nil))))))) (pss_cons (ps_set (i := 7) sc__law_web.nd rfl (by first | exact Or.inl rfl | exact Or.inr rfl) (pe_ix ix_list (pv 7) (pe_ix ix_list (pe_lst (pa_cons pe_int (pa_cons pe_int (pa_cons pe_int (pa_cons pe_int (pa_cons pe_int (pa_cons pe_int (pa_cons pe_int pa_nil)))))))) (pe_call (ok__law_draw E) (hr.mono (by decide)) rfl E.d__law_draw.g E.d__law_draw.F.kp E.d__law_draw.b .nil pass0 (pa_cons (pv 0) (pa_cons pe_int pa_nil))) (fun _ _ => rfl)) (fun _ _ => rfl))) (pss_one (ps_expr (pe_bm PySem.F.plainAttrs_list PySem.F.slot_list_append PySem.F.type_list_append mt_append (pv 5) (pa_cons (pe_tup (pa_cons (pe_call (ok__law_sum E) (hr.mono (by decide)) rfl E.d__law_sum.g E.d__law_sum.F.kp E.d__law_sum.b .nil pass0 (pa_cons (pv 0) (pa_cons (pv 3) (pa_cons (pv 4) pa_nil)))) (pa_cons (pv 7) pa_nil))) pa_nil))))))) (pss_one (ps_ret (pe_tup (pa_cons (pv 3) (pa_cons (pv 4) (pa_cons (pe_tupleOf rfl E.f_tuple (pv 5)) pa_nil)))))))))), ?_⟩
    -- the prime
    refine ⟨by show 6 ≤ sizeLine; decide, fun l1 nl1 => ?_⟩
    obtain ⟨nl1d, _⟩ := dk.ne nl1
    refine ⟨_, rfl, d, sc, 6, rfl, dk.on (Ex.new nl1), by omega, by omega, fun x1 H1 e1 dk1 x10 x11 => ?_⟩
    obtain ⟨p, hp, prp⟩ := prime_at x10 x11
    have E1 : Ex (rm H d) H1 := dtr (rm_ex.trans (Ex.new nl1)) e1
    refine ⟨l1, _, x1, _, rfl, rfl, SqL.of (dkeep e1 upd_same nl1d), hp, ?_⟩
    -- many
    refine ⟨_, rfl, _, rfl, d, sc, 4, rfl, dk1, by omega, by omega, fun x2 H2 e2 dk2 x20 x21 => ⟨1, x2, rfl, rfl, ?_⟩⟩
    obtain ⟨n, hn⟩ : ∃ n : Nat, (1 : Int) + x2 = (n : Int) := ⟨(1 + x2).toNat, by omega⟩
    have n1 : 1 ≤ n := by omega
    have n4 : n ≤ 4 := by omega
    have E2 := dtr E1 e2
    -- pieces
    refine ⟨Nat.zero_le _, fun pl npl => ?_⟩
    obtain ⟨npd, nps⟩ := dk2.ne npl
    have E3 : Ex (rm H d) (upd H2 pl (.lst [])) := E2.trans (Ex.new npl)
    have dk3 : DeckAt d sc (upd H2 pl (.lst [])) := dk2.on (Ex.new npl)
    have hpl3 : (upd H2 pl (.lst [])) pl = some (.lst []) := upd_same
    have npl0 : (rm H d) pl = none := by
      rw [rm_ne npd]
      exact dfresh E2 npl npd
    generalize upd H2 pl (.lst []) = H3 at E3 dk3 hpl3
    refine ⟨_, rfl, 1 + x2, 1, rfl, rfl, _, rfl, _, rfl, d, sc, 6, rfl, dk3, by omega, by omega, fun x3 H4 e4 dk4 x30 x31 => ⟨(1 + x2) - 1, x3, rfl, rfl, 0, (1 + x2) - 1 + x3, rfl, _, rfl, ?_, ?_, for_it walk_range (fun i σ H' => ∃ u6 u7, σ = [some (.ref d), some (.int 4), some (.int 6), some (.int p), some (.int (1 + x2)), some (.ref pl), u6, u7] ∧ Ex (rm H d) H' ∧ DeckAt d sc H' ∧ ∃ qs ys, H' pl = some (.lst ys) ∧ Paired (fun q y => PieceAt q y H') qs ys ∧ (∀ q, q ∈ qs → PcOk p n q) ∧ qs.length = i) ⟨none, none, rfl, dtr E3 e4, dk4, [], [], dkeep e4 hpl3 npd, .nil, fun _ h => (nomatch h), rfl⟩ (fun _ _ _ _ _ => trivial) (fun i y σ H1 H2 hi h hy => ?_) fun σ H1 h => ?_⟩⟩
    · split <;> omega
    · split <;> omega
    · obtain ⟨u6, u7, rfl, F0, dk5, qs, ys, hpl, hqs, hok, hlen⟩ := h
      obtain ⟨rfl, rfl⟩ := hy
      have hi9 : i < 9 := by
        have q := hi
        split at q <;> omega
      -- the sizes
      refine ⟨_, rfl, d, sc, 12, rfl, dk5, by omega, by omega, fun a H5 f1 dk6 a0 a1 => ⟨1, a, rfl, rfl, 10, 6, rfl, rfl, ⟨by decide, by decide, by decide⟩, _, rfl, d, sc, 9, rfl, dk6, by omega, by omega, fun b H6 f2 dk7 b0 b1 => ⟨_, b, rfl, rfl, by show 5 ≤ sizeLine; decide, fun sl nsl => ?_⟩⟩⟩
      have F2 : Ex (rm H2 d) H6 := dtr f1 f2
      obtain ⟨nsd, nss⟩ := dk7.ne nsl
      have F3 : Ex (rm H2 d) (upd H6 sl (.lst [.int 1, .int 2, .int 3, .int (1 + a), .int (10 ^ (6 : Int).toNat - b)])) := F2.trans (Ex.new nsl)
      have dk8 : DeckAt d sc (upd H6 sl (.lst [.int 1, .int 2, .int 3, .int (1 + a), .int (10 ^ (6 : Int).toNat - b)])) := dk7.on (Ex.new nsl)
      have hsl : (upd H6 sl (.lst [.int 1, .int 2, .int 3, .int (1 + a), .int (10 ^ (6 : Int).toNat - b)])) sl = some (.lst [.int 1, .int 2, .int 3, .int (1 + a), .int (10 ^ (6 : Int).toNat - b)]) := upd_same
      show tSeq _ _ _ _ _
      generalize upd H6 sl (.lst [.int 1, .int 2, .int 3, .int (1 + a), .int (10 ^ (6 : Int).toNat - b)]) = H7 at F3 dk8 hsl ⊢
      refine ⟨_, rfl, by show 7 ≤ sizeLine; decide, fun il nil_ => ?_⟩
      obtain ⟨nid, nis⟩ := dk8.ne nil_
      refine ⟨_, rfl, d, sc, 7, rfl, dk8.on (Ex.new nil_), by omega, by omega, fun c H8 f4 dk9 c0 c1 => ?_⟩
      have F8 : Ex (rm H7 d) H8 := dtr (rm_ex.trans (Ex.new nil_)) f4
      have hsl8 := dkeep F8 hsl nsd
      obtain ⟨j, hj, hj5, sz, hsz, hcase⟩ := five_at (a := 1 + a) (b := 10 ^ (6 : Int).toNat - b) c0 c1
      have s1 : 1 ≤ sz ∧ sz ≤ 1000000 := by
        have : (10 : Int) ^ (6 : Int).toNat = 1000000 := by decide
        rcases hcase with rfl | rfl | rfl | rfl | rfl <;> omega
      refine ⟨il, _, c, _, rfl, rfl, SqL.of (dkeep f4 upd_same nid), hj, sl, _, _, _, rfl, rfl, SqL.of hsl8, hsz, ?_⟩
      have F9 : Ex (rm H2 d) H8 := dtr F3 F8
      have hpl8 := dkeep F9 hpl npd
      -- the piece
      refine ⟨_, rfl, .inl ⟨rfl, _, SqL.of hpl8⟩, _, rfl, _, rfl, _, rfl, d, sc, p, n, by rw [hn]; rfl, dk9, prp.p2, prp.p251, n1, by omega, fun rv H9 r f10 dk10 hrow irow nz => ?_⟩
      refine ⟨_, rfl, by show 2 ≤ sizeLine; decide, fun T nT => ?_⟩
      have hpl9 := dkeep f10 hpl8 npd
      have eT : Ex H9 (upd H9 T (.tup [rv, .int sz])) := Ex.new nT
      have hplT := eT _ _ hpl9
      refine ⟨pl, ys, _, rfl, rfl, hplT, ?_, ?_⟩
      · rw [← hqs.length, hlen, sizeLine_eq]
        omega
      · have F11 : Ex (rm H2 d) (upd H9 T (.tup [rv, .int sz])) := (dtr F9 f10).trans eT
        have eTT : ExT H2 (upd (upd H9 T (.tup [rv, .int sz])) pl (.lst (ys ++ [.ref T]))) := (dk5.t F11).mut hplT rfl
        obtain ⟨ra, rfl, hra⟩ := hrow
        have hra2 : (upd (upd H9 T (.tup [.ref ra, .int sz])) pl (.lst (ys ++ [.ref T]))) ra = some (.tup (r.map V.int)) := by
          rw [upd_ne (ne_of (eT _ _ hra) hplT (by intro z; cases z))]
          exact eT _ _ hra
        have hT2 : (upd (upd H9 T (.tup [.ref ra, .int sz])) pl (.lst (ys ++ [.ref T]))) T = some (.tup [.ref ra, .int sz]) := by
          rw [upd_ne (ne_of upd_same hplT (by intro z; cases z)), upd_same]
        refine ⟨_, _, rfl, Ex.mut (dtr F0 F11) npl0, (dk10.on eT).upd npd nps, qs ++ [(r, sz)], _, upd_same, ?_, fun q hq => ?_, ?_⟩
        · exact paired_app (hqs.mono fun _ _ q => q.t eTT) (.cons ⟨T, ra, rfl, hT2, hra2⟩ .nil)
        · rcases List.mem_append.mp hq with hq | hq
          · exact hok q hq
          · rw [List.mem_singleton.mp hq]
            exact ⟨irow, nz, s1.1, s1.2⟩
        · rw [List.length_append, hlen]
          rfl
    · obtain ⟨u6, u7, rfl, F0, dk5, qs, ys, hpl, hqs, hok, hlen⟩ := h
      refine ⟨_, rfl, _, rfl, _, rfl, .inl ⟨pl, ys, rfl, SqL.of hpl, fun tp ntp => ⟨by show 3 ≤ sizeLine; decide, fun T nT => ?_⟩⟩⟩
      have e1 : Ex H1 (upd H1 tp (.tup ys)) := Ex.new ntp
      have e2' : Ex (upd H1 tp (.tup ys)) (upd (upd H1 tp (.tup ys)) T (.tup [.int p, .int (1 + x2), .ref tp])) := Ex.new nT
      have e3 := e1.trans e2'
      refine k _ _ ⟨p, n, qs⟩ (F0.trans e3) (dk5.on e3) ⟨T, tp, rfl, ?_, ys, e2' _ _ upd_same, hqs.mono fun _ _ q => q.t (Ex.t e3)⟩ ⟨prp.p2, prp.p251, prp.pr, prp.inv, n1, by show n ≤ 10; omega, ?_, hok⟩ ?_
      · rw [upd_same, hn]
      · show qs.length ≤ 40
        rw [hlen]
        split <;> omega
      · show qs.length ≤ 8
        rw [hlen]
        split <;> omega
end
end Wk
end

section
set_option Elab.async false
set_option linter.all false
set_option maxRecDepth 100000
set_option maxHeartbeats 2000000
namespace Wk
open PySem PySem.Spec PyProof.Rows L2 Evl Rk
section
variable {K : PySem.W.Frag} {base : Heap} {mg : Str → Option Value} {P : Program} {w : World}
def sp__law_lot : Sp := fun vs H Q _ => ∃ (d sc : Addr) (n : Nat) (bd : Int), vs = [.ref d, nV n, .int bd] ∧ DeckAt d sc H ∧ n ≤ 12 ∧ ∀ (v : V) H' (l : List Nat), Ex (rm H d) H' → DeckAt d sc H' → LotAt l v H' → l.Sublist (List.range n) → Q v H'
theorem ok__law_lot (E : Env K mg) : FnOk P w K mg base CX0 3 E.d__law_lot.f E.d__law_lot.fd ["_law_deck_here", "_law_many", "_law_bound"] sp__law_lot := by
  refine E.d__law_lot.F.ok sc__law_lot (fun vs H Q E h => ?_) (fun cdv A outer s H vs Q E' hr h => ?_)
  · obtain ⟨d, sc, n, bd, rfl, _⟩ := h
    rfl
  · obtain ⟨d, sc, n, bd, rfl, dk, n12, k⟩ := h
    refine ⟨_, PSs.nox (pss_one (ps_ret (pe_tupleOf rfl E.f_tuple (pe_lc (own := [("_law_k", 3)]) (g := gName 3) rfl sc__law_lot.nd (pi_range1 rfl E.f_range (pa_cons (pv 1) pa_nil)) (blkOk_by (N := n__law_lot) (sc := defScope s__law_lot) (by decide +kernel)) (fun _ _ _ _ _ => (pg_name (i := 3) sc__law_lot.nd rfl (by first | exact Or.inl rfl | exact Or.inr rfl))) (fun _ _ _ _ _ => (pts_one (pt_cmpR op_lt (pe_call (ok__law_draw E) (hr.mono (by decide)) rfl E.d__law_draw.g E.d__law_draw.F.kp E.d__law_draw.b .nil pass0 (pa_cons (pv 0) (pa_cons pe_int pa_nil))) (pv 2) (nomark _)))) (fun _ _ _ _ _ => (pv 3)))))), ?_⟩
    refine ⟨_, rfl, (n : Int), rfl, by omega, by omega, fun D hD => ?_⟩
    obtain ⟨nDd, nDs⟩ := dk.ne hD
    have nD0 : (rm H d) D = none := by
      rw [rm_ne nDd]
      exact hD
    refine lc_it walk_range (fun i H' => Ex (rm H d) H' ∧ DeckAt d sc H' ∧ ∃ l : List Nat, H' D = some (.lst (l.map nV)) ∧ l.Sublist (List.range i)) ⟨rm_ex.trans (Ex.new hD), dk.on (Ex.new hD), [], upd_same, List.nil_sublist _⟩ (fun _ _ _ _ => trivial) (fun i y H1 H2 hi h hy => ?_) fun H1 h => ?_
    · obtain ⟨e1, dk1, l, hl1, hl2⟩ := h
      obtain ⟨rfl, rfl⟩ := hy
      have hln := hl2.length_le
      rw [List.length_range] at hln
      refine ⟨by rfl, ⟨_, rfl, d, sc, 8, rfl, dk1, by omega, by omega, fun x H3 e3 dk3 x0 x1 => ⟨_, rfl, _, _, rfl, rfl, _, rfl, ?_⟩⟩⟩
      have hD3 := dkeep e3 hl1 nDd
      have hr : List.range (i + 1) = List.range i ++ [i] := List.range_succ
      by_cases hx : x < bd
      · rw [decide_eq_true hx]
        refine ⟨_, rfl, _, hD3, ?_, Ex.mut (dtr e1 e3) nD0, dk3.upd nDd nDs, l ++ [i], ?_, ?_⟩
        · rw [List.length_map, sizeLine_eq]
          omega
        · rw [upd_same, List.map_append]
          show some (HO.lst (l.map nV ++ [V.int (0 + (i : Int))])) = some (HO.lst (l.map nV ++ [V.int (i : Int)]))
          rw [Int.zero_add]
        · rw [hr]
          exact List.Sublist.append hl2 (List.Sublist.refl _)
      · rw [decide_eq_false hx]
        refine ⟨dtr e1 e3, dk3, l, hD3, ?_⟩
        rw [hr]
        exact hl2.trans (List.sublist_append_left _ _)
    · obtain ⟨e1, dk1, l, hl1, hl2⟩ := h
      exact .inl ⟨D, _, rfl, SqL.of hl1, fun q nq => k _ _ l (e1.trans (Ex.new nq)) (dk1.on (Ex.new nq)) ⟨q, rfl, upd_same⟩ hl2⟩
/-! ### a display whose items are all of one kind -/
def EaH (ta : TA) (σ : L2.St) (H : Hp) (m : Nat) (Pp : V → Hp → Prop) : Prop := ∀ H1, Ex H H1 → ∀ Q : List V → Hp → Prop, (∀ vs H2, Ex H1 H2 → vs.length = m → (∀ v, v ∈ vs → Sta Pp v H2) → Q vs H2) → ta σ H1 Q
theorem eah_nil {σ : L2.St} {H : Hp} {Pp : V → Hp → Prop} : EaH tNil σ H 0 Pp := fun H1 _ Q q => q [] H1 (Ex.refl _) rfl fun _ h => nomatch h
theorem eah_cons {σ : L2.St} {H : Hp} {te : TE} {tr : TA} {m : Nat} {Pp : V → Hp → Prop} (h : EvP te σ H Pp) (hr : EaH tr σ H m Pp) : EaH (tCons te tr) σ H (m + 1) Pp := fun H1 e1 Q q => h H1 e1 _ fun v H2 e2 pv => hr H2 (e1.trans e2) _ fun vs H3 e3 hl hv => q (v :: vs) H3 (e2.trans e3) (by rw [List.length_cons, hl]) fun u hu => by
  rcases List.mem_cons.mp hu with rfl | hu
  · exact pv.on e3
  · exact hv u hu
/-- what is no lot of n -/
def Odd (n : Nat) (v : V) (H : Hp) : Prop := v = .non ∨ (v ≠ .non ∧ LotB H v (n : Int) false)
theorem Odd.sta {n : Nat} {v : V} {H : Hp} (h : Odd n v H) : Sta (Odd n) v H := fun H' e => by
  rcases h with h | ⟨h1, h2⟩
  · exact .inl h
  · exact .inr ⟨h1, h2.on e⟩
theorem odd_val {σ : L2.St} {H : Hp} {te : TE} {n : Nat} {v : V} (h : Ev te σ H v) (ht : ∀ H', Th H' v) (hr : ∀ a, v ≠ .ref a) : EvP te σ H (Odd n) := evp_of h (Odd.sta (by
  by_cases hv : v = .non
  · exact .inl hv
  · exact .inr ⟨hv, .inr ⟨ht _, fun a xs e => absurd e (hr a), rfl⟩⟩))
theorem odd_tup {σ : L2.St} {H : Hp} {te : TE} {n : Nat} {vs : List V} (h : EvU te σ H vs) (ht : ∀ H' v, v ∈ vs → Th H' v) (hb : lotB (n : Int) (-1) vs = false) : EvP te σ H (Odd n) := fun H1 e1 Q r => h H1 e1 _ fun p H2 _ e2 hp => r _ H2 e2 (Odd.sta (.inr ⟨by simp, .inl ⟨p, vs, rfl, hp, ht H2, hb.symm⟩⟩))
theorem odd_of_lst {n : Nat} {p : Addr} {xs : List V} {H : Hp} (h : H p = some (.lst xs)) : Odd n (.ref p) H := .inr ⟨by simp, .inr ⟨.lst h, (fun a ys e => by
  cases e
  rw [h]
  intro z
  cases z), rfl⟩⟩
theorem odd_of_dct {n : Nat} {p : Addr} {kvs : List (Key × V)} {H : Hp} (h : H p = some (.dK kvs)) : Odd n (.ref p) H := .inr ⟨by simp, .inr ⟨.dct h, (fun a ys e => by
  cases e
  rw [h]
  intro z
  cases z), rfl⟩⟩
theorem odd_lst {σ : L2.St} {H : Hp} {te : TE} {n : Nat} {vs : List V} (h : EvL te σ H vs) : EvP te σ H (Odd n) := fun H1 e1 Q r => h H1 e1 _ fun p H2 _ e2 hp => r _ H2 e2 (Odd.sta (odd_of_lst hp))
theorem odd_dct {σ : L2.St} {H : Hp} {n : Nat} : EvP tDNewK σ H (Odd n) := fun H1 e1 Q r p np => r _ _ (Ex.new np) (Odd.sta (odd_of_dct upd_same))
theorem odd_nest {σ : L2.St} {H : Hp} {n : Nat} {te : TE} {vs : List V} (h : EvU te σ H vs) : EvP (tTup (tCons te tNil)) σ H (Odd n) := fun H1 e1 Q r => h H1 e1 _ fun q H2 _ e2 hq => ⟨by show 1 ≤ sizeLine; decide, fun p np => r _ _ (e2.trans (Ex.new np)) (Odd.sta (.inr ⟨by simp, .inl ⟨p, [.ref q], rfl, upd_same, fun x hx => (by
  rw [List.mem_singleton.mp hx]
  exact .tup ((Ex.new np) _ _ hq)), rfl⟩⟩))⟩
theorem Th.deck {d sc : Addr} {H H' : Hp} {v : V} (dk : DeckAt d sc H) (dk' : DeckAt d sc H') (e : Ex (rm H d) H') (h : Th H v) : Th H' v := by
  cases h with
  | int i => exact .int i
  | bl b => exact .bl b
  | non => exact .non
  | str s => exact .str s
  | @lst a xs h =>
    by_cases z : a = d
    · obtain ⟨_, _, _, _, _, h1, _⟩ := dk'
      rw [z]
      exact .lst h1
    · exact .lst (dkeep e h z)
  | tup h => exact .tup (dk.t e _ _ h rfl)
  | @dct a kvs h =>
    refine .dct (dkeep e h fun z => ?_)
    obtain ⟨_, _, _, _, _, h1, _⟩ := dk
    rw [z, h1] at h
    cases h
theorem LotB.deck {d sc : Addr} {H H' : Hp} {v : V} {m : Int} {b : Bool} (dk : DeckAt d sc H) (dk' : DeckAt d sc H') (e : Ex (rm H d) H') (h : LotB H v m b) : LotB H' v m b := by
  rcases h with ⟨a, xs, h1, h2, h3, h4⟩ | ⟨h1, h2, h3⟩
  · exact .inl ⟨a, xs, h1, dk.t e _ _ h2 rfl, fun x hx => (h3 x hx).deck dk dk' e, h4⟩
  · refine .inr ⟨h1.deck dk dk' e, fun a xs ea => ?_, h3⟩
    have q := h1.deck dk dk' e
    subst ea
    intro z
    cases h1 with
    | @lst a' xs' h =>
      by_cases y : a = d
      · obtain ⟨_, _, _, _, _, h5, _⟩ := dk'
        rw [y, h5] at z
        cases z
      · rw [dkeep e h y] at z
        cases z
    | tup h => exact h2 _ _ rfl h
    | @dct a' kvs h =>
      rw [dkeep e h (fun y => by
        obtain ⟨_, _, _, _, _, h5, _⟩ := dk
        rw [y, h5] at h
        cases h)] at z
      cases z
theorem Odd.deck {d sc : Addr} {H H' : Hp} {v : V} {n : Nat} (dk : DeckAt d sc H) (dk' : DeckAt d sc H') (e : Ex (rm H d) H') (h : Odd n v H) : Odd n v H' := by
  rcases h with h | ⟨h1, h2⟩
  · exact .inl h
  · exact .inr ⟨h1, h2.deck dk dk' e⟩
theorem q_asgH {ta : TA} {σ : L2.St} {H : Hp} {m i : Nat} {Pp : V → Hp → Prop} {tz : TS} {D : Ends} (h : EaH ta σ H m Pp) (hm : m ≤ 1000) (k : ∀ p vs H1, H p = none → Ex H H1 → H1 p = some (.lst vs) → vs.length = m → (∀ v, v ∈ vs → Sta Pp v H1) → tz D (σ.set i (some (.ref p))) H1) : tSeq (tAsg (tLst ta) (gName i)) tz D σ H :=
  h H (Ex.refl H) _ fun vs H1 e1 hl hv => ⟨by rw [hl]; exact Nat.le_trans hm (by decide), fun p np => k p vs _ (fresh_back e1 np) (e1.trans (Ex.new np)) upd_same hl fun v hm => (hv v hm).on (Ex.new np)⟩
theorem isIn_out {i lo hi : Int} (h : ¬ (lo ≤ i ∧ i ≤ hi)) : isIn (.int i) lo hi = false := by
  show (decide (lo ≤ i) && decide (i ≤ hi)) = false
  by_cases h1 : lo ≤ i
  · rw [decide_eq_true h1, decide_eq_false (fun h2 => h ⟨h1, h2⟩)] <;> rfl
  · rw [decide_eq_false h1] <;> rfl
theorem lotB1 {n : Nat} {i : Int} (h : ¬ (0 ≤ i ∧ i ≤ (n : Int) - 1)) : lotB (n : Int) (-1) [.int i] = false := by
  show (isIn (.int i) (-1 + 1) ((n : Int) - 1) && _) = false
  rw [isIn_out (by omega)] <;> rfl
theorem lotB2 {n : Nat} {i j : Int} (h : ¬ (0 ≤ i ∧ i ≤ (n : Int) - 1) ∨ ¬ (i + 1 ≤ j ∧ j ≤ (n : Int) - 1)) : lotB (n : Int) (-1) [.int i, .int j] = false := by
  show (isIn (.int i) (-1 + 1) ((n : Int) - 1) && (isIn (.int j) (i + 1) ((n : Int) - 1) && true)) = false
  rcases h with h | h
  · rw [isIn_out (i := i) (by omega)] <;> rfl
  · rw [isIn_out (i := j) h]
    cases isIn (.int i) (-1 + 1) ((n : Int) - 1) <;> rfl
def sp__law_odd_lot : Sp := fun vs H Q _ => ∃ (d sc : Addr) (n : Nat), vs = [.ref d, nV n] ∧ DeckAt d sc H ∧ ∀ (v : V) H', Ex (rm H d) H' → DeckAt d sc H' → Odd n v H' → Q v H'
theorem ok__law_odd_lot (E : Env K mg) : FnOk P w K mg base CX0 3 E.d__law_odd_lot.f E.d__law_odd_lot.fd ["_law_deck_here", "_law_many"] sp__law_odd_lot := by
  refine E.d__law_odd_lot.F.ok sc__law_odd_lot (fun vs H Q E h => ?_) (fun cdv A outer s H vs Q E' hr h => ?_)
  · obtain ⟨d, sc, n, rfl, _⟩ := h
    rfl
  · obtain ⟨d, sc, n, rfl, dk, k⟩ := h
    refine ⟨_, PSs.nox (pss_cons (ps_set (i := 2) sc__law_odd_lot.nd rfl (by first | exact Or.inl rfl | exact Or.inr rfl) (pe_lst (pa_cons pe_non (pa_cons (pe_lst (pa_cons pe_int pa_nil)) (pa_cons (pe_tup (pa_cons (pv 1) pa_nil)) (pa_cons (pe_tup (pa_cons (pe_un un_neg pe_int) pa_nil)) (pa_cons (pe_tup (pa_cons pe_int (pa_cons pe_int pa_nil))) (pa_cons (pe_tup (pa_cons pe_int (pa_cons pe_int pa_nil))) (pa_cons (pe_tup (pa_cons pe_bl pa_nil)) (pa_cons pe_str (pa_cons pe_int (pa_cons (pe_tup (pa_cons pe_non pa_nil)) (pa_cons (pe_tup (pa_cons pe_int (pa_cons (pv 1) pa_nil))) (pa_cons pe_dnewK (pa_cons (pe_tup (pa_cons (pe_tup (pa_cons pe_int pa_nil)) pa_nil)) pa_nil))))))))))))))) (pss_one (ps_ret (pe_ix ix_list (pv 2) (pe_call (ok__law_draw E) (hr.mono (by decide)) rfl E.d__law_draw.g E.d__law_draw.F.kp E.d__law_draw.b .nil pass0 (pa_cons (pv 0) (pa_cons pe_int pa_nil))) (fun _ _ => rfl))))), ?_⟩
    have th1 : ∀ {H' : Hp} {i : Int} (v : V), v ∈ [V.int i] → Th H' v := fun v hv => by
      rw [List.mem_singleton.mp hv]
      exact .int _
    have th2 : ∀ {H' : Hp} {i j : Int} (v : V), v ∈ [V.int i, V.int j] → Th H' v := fun v hv => by
      rcases List.mem_cons.mp hv with rfl | hv
      · exact .int _
      · rw [List.mem_singleton.mp hv]
        exact .int _
    refine q_asgH (Pp := Odd n) (eah_cons (odd_val ev_c (fun _ => .non) (fun _ h => nomatch h)) (eah_cons (odd_lst (el_lst (ea_cons ev_c ea_nil) (by decide)))
      (eah_cons (odd_tup (vs := [nV n]) (eu_tup (ea_cons (ev_var rfl) ea_nil) (by show 1 ≤ 100000; decide)) (fun H' v hv => th1 v hv) (lotB1 (by omega)))
      (eah_cons (odd_tup (vs := [.int (-1)]) (eu_tup (ea_cons (ev_un ev_c ru_neg) ea_nil) (by show 1 ≤ 100000; decide)) (fun H' v hv => th1 v hv) (lotB1 (by omega)))
      (eah_cons (odd_tup (vs := [.int 0, .int 0]) (eu_tup (ea_cons ev_c (ea_cons ev_c ea_nil)) (by show 2 ≤ 100000; decide)) (fun H' v hv => th2 v hv) (lotB2 (by omega)))
      (eah_cons (odd_tup (vs := [.int 1, .int 0]) (eu_tup (ea_cons ev_c (ea_cons ev_c ea_nil)) (by show 2 ≤ 100000; decide)) (fun H' v hv => th2 v hv) (lotB2 (by omega)))
      (eah_cons (odd_tup (vs := [.bl true]) (eu_tup (ea_cons ev_c ea_nil) (by show 1 ≤ 100000; decide)) (fun H' v hv => by rw [List.mem_singleton.mp hv]; exact .bl _) rfl)
      (eah_cons (odd_val ev_c (fun _ => .str _) (fun _ h => nomatch h)) (eah_cons (odd_val ev_c (fun _ => .int _) (fun _ h => nomatch h))
      (eah_cons (odd_tup (vs := [.non]) (eu_tup (ea_cons ev_c ea_nil) (by show 1 ≤ 100000; decide)) (fun H' v hv => by rw [List.mem_singleton.mp hv]; exact .non) rfl)
      (eah_cons (odd_tup (vs := [.int 0, nV n]) (eu_tup (ea_cons ev_c (ea_cons (ev_var rfl) ea_nil)) (by show 2 ≤ 100000; decide)) (fun H' v hv => th2 v hv) (lotB2 (by omega)))
      (eah_cons odd_dct (eah_cons (odd_nest (eu_tup (vs := [.int 0]) (ea_cons ev_c ea_nil) (by show 1 ≤ 100000; decide))) eah_nil))))))))))))) (by decide) fun lp vs H1 nlp e1 hlp hl hv => ?_
    obtain ⟨nd, ns⟩ := dk.ne nlp
    refine ⟨_, rfl, _, rfl, d, sc, 13, rfl, dk.on e1, by omega, by omega, fun x H2 e2 dk2 x0 x1 => ?_⟩
    obtain ⟨j, rfl⟩ : ∃ j : Nat, x = (j : Int) := ⟨x.toNat, by omega⟩
    have hx : j < vs.length := by
      rw [hl]
      omega
    refine ⟨lp, vs, (j : Int), vs[j], rfl, rfl, SqL.of (dkeep e2 hlp nd), atI_nat (List.getElem?_eq_getElem hx), ?_⟩
    exact k _ H2 (dtr (rm_ex.trans e1) e2) dk2 ((hv _ (List.getElem_mem hx)).now.deck (dk.on e1) dk2 e2)
theorem paired_take {α β : Type} {F : α → β → Prop} : ∀ {l : List α} {m : List β} (i : Nat), Paired F l m → Paired F (l.take i) (m.take i)
  | _, _, 0, _ => .nil
  | _, _, _ + 1, .nil => .nil
  | _, _, i + 1, .cons h t => .cons h (paired_take i t)
theorem paired_drop {α β : Type} {F : α → β → Prop} : ∀ {l : List α} {m : List β} (i : Nat), Paired F l m → Paired F (l.drop i) (m.drop i)
  | _, _, 0, h => h
  | _, _, _ + 1, .nil => .nil
  | _, _, i + 1, .cons _ t => paired_drop i t
def sp__law_large : Sp := fun vs H Q _ => ∃ (d sc : Addr) (W : Wb) (wv : V), vs = [.ref d, wv] ∧ DeckAt d sc H ∧ LWebAt W wv H ∧ Wok W ∧ W.ps.length ≤ 8 ∧ ∀ (v : V) H' (W' : Wb), Ex (rm H d) H' → DeckAt d sc H' → LWebAt W' v H' → Wok W' → W'.ps.length ≤ 12 → Q v H'
theorem ok__law_large (E : Env K mg) : FnOk P w K mg base CX0 4 E.d__law_large.f E.d__law_large.fd ["_law_deck_here", "_law_web_here"] sp__law_large := by
  refine E.d__law_large.F.ok sc__law_large (fun vs H Q E h => ?_) (fun cdv A outer s H vs Q E' hr h => ?_)
  · obtain ⟨d, sc, W, wv, rfl, _⟩ := h
    rfl
  · obtain ⟨d, sc, W, wv, rfl, dk, ⟨t, a, rfl, ht, pvs, ha, hp⟩, ok, w8, k⟩ := h
    refine ⟨_, PSs.nox (pss_cons (ps_set (i := 2) sc__law_large.nd rfl (by first | exact Or.inl rfl | exact Or.inr rfl) (pe_slice sl_list (pe_callTy call_list_of (by rfl) E.f_list (by decide +kernel) (pa_cons (pe_ix ix_tup (pv 1) pe_int (fun _ _ => rfl)) pa_nil)) po_none (po_some pe_int))) (pss_cons (ps_for PassesOwn.never rfl (pi_range1 rfl E.f_range (pa_cons (pe_op op_sub (pe_op op_add pe_int (pe_call (ok__law_draw E) (hr.mono (by decide)) rfl E.d__law_draw.g E.d__law_draw.F.kp E.d__law_draw.b .nil pass0 (pa_cons (pv 0) (pa_cons pe_int pa_nil)))) (pe_callB call_len_seq (by rfl) E.f_len (by decide +kernel) (pa_cons (pv 2) pa_nil))) pa_nil)) (pg_name (i := 3) sc__law_large.nd rfl (by first | exact Or.inl rfl | exact Or.inr rfl)) (pss_cons (ps_set (i := 4) sc__law_large.nd rfl (by first | exact Or.inl rfl | exact Or.inr rfl) (pe_call (ok__law_draw E) (hr.mono (by decide)) rfl E.d__law_draw.g E.d__law_draw.F.kp E.d__law_draw.b .nil pass0 (pa_cons (pv 0) (pa_cons (pe_op op_add (pe_callB call_len_seq (by rfl) E.f_len (by decide +kernel) (pa_cons (pv 2) pa_nil)) pe_int) pa_nil)))) (pss_one (ps_expr (pe_bm PySem.F.plainAttrs_list PySem.F.slot_list_insert PySem.F.type_list_insert mt_insert (pv 2) (pa_cons (pv 4) (pa_cons (pe_tup (pa_cons (pe_call (ok__law_sum E) (hr.mono (by decide)) rfl E.d__law_sum.g E.d__law_sum.F.kp E.d__law_sum.b .nil pass0 (pa_cons (pv 0) (pa_cons (pe_ix ix_tup (pv 1) pe_int (fun _ _ => rfl)) (pa_cons (pe_ix ix_tup (pv 1) pe_int (fun _ _ => rfl)) pa_nil)))) (pa_cons (pe_op op_add pe_int (pe_call (ok__law_draw E) (hr.mono (by decide)) rfl E.d__law_draw.g E.d__law_draw.F.kp E.d__law_draw.b .nil pass0 (pa_cons (pv 0) (pa_cons pe_int pa_nil)))) pa_nil))) pa_nil))))))) (pss_one (ps_ret (pe_tup (pa_cons (pe_ix ix_tup (pv 1) pe_int (fun _ _ => rfl)) (pa_cons (pe_ix ix_tup (pv 1) pe_int (fun _ _ => rfl)) (pa_cons (pe_tupleOf rfl E.f_tuple (pv 2)) pa_nil)))))))), ?_⟩
    have hpl := hp.length
    refine ⟨_, rfl, t, _, 2, _, rfl, rfl, SqT.of ht, atI_nat (j := 2) rfl, a, pvs, rfl, .inr (SqT.of ha), fun l1 nl1 => ⟨12, rfl, l1, pvs, rfl, SqL.of upd_same, fun pl npl => ?_⟩⟩
    have ecut : cutV pvs none (some 12) = pvs := by
      unfold cutV
      rw [HT.sIx_none, show HT.sIx pvs.length pvs.length (some 12) = min 12 pvs.length from HT.sIx_nat pvs.length pvs.length 12, List.drop_zero]
      exact List.take_of_length_le (by omega)
    rw [ecut]
    have e1 : Ex H (upd (upd H l1 (.lst pvs)) pl (.lst pvs)) := (Ex.new nl1).trans (Ex.new npl)
    have hpl1 : (upd (upd H l1 (.lst pvs)) pl (.lst pvs)) pl = some (.lst pvs) := upd_same
    have npl0 : H pl = none := fresh_back (Ex.new nl1) npl
    obtain ⟨npd, nps⟩ := dk.ne npl0
    have npl1 : (rm H d) pl = none := by
      rw [rm_ne npd]
      exact npl0
    have dk1 := dk.on e1
    show tSeq _ _ _ _ _
    generalize upd (upd H l1 (.lst pvs)) pl (.lst pvs) = H1 at e1 hpl1 dk1 ⊢
    refine ⟨_, rfl, d, sc, 4, rfl, dk1, by omega, by omega, fun x H2 e2 dk2 x0 x1 => ⟨9, x, rfl, rfl, _, rfl, pl, pvs, rfl, .inl (SqL.of (dkeep e2 hpl1 npd)), 9 + x, (pvs.length : Int), rfl, rfl, _, rfl, by omega, by omega, for_it walk_range (fun i σ H' => ∃ u3 u4, σ = [some (.ref d), some (.ref t), some (.ref pl), u3, u4] ∧ Ex (rm H d) H' ∧ DeckAt d sc H' ∧ ∃ qs ys, H' pl = some (.lst ys) ∧ Paired (fun q y => PieceAt q y H') qs ys ∧ (∀ q, q ∈ qs → PcOk W.p W.n q) ∧ qs.length = W.ps.length + i)
      ⟨none, none, rfl, dtr (rm_ex.trans e1) e2, dk2, W.ps, pvs, dkeep e2 hpl1 npd, hp.mono fun _ _ q => q.t ((Ex.t e1).trans (dk1.t e2)), ok.pcs, rfl⟩ (fun _ _ _ _ _ => trivial) (fun i y σ H3 H4 hi h hy => ?_) fun σ H3 h => ?_⟩⟩
    · obtain ⟨u3, u4, rfl, F0, dk3, qs, ys, hpl3, hqs, hok, hlen⟩ := h
      obtain ⟨rfl, rfl⟩ := hy
      have hql := hqs.length
      have hi12 : qs.length ≤ 12 := by omega
      have ET := dk.t F0
      have ht3 := ET _ _ ht rfl
      refine ⟨_, rfl, _, rfl, pl, ys, rfl, .inl (SqL.of hpl3), (ys.length : Int), 1, rfl, rfl, d, sc, _, rfl, dk3, by omega, by omega, fun at_ H5 f1 dk4 a0 a1 => ?_⟩
      have hpl5 := dkeep f1 hpl3 npd
      have ht5 := (dk3.t f1) _ _ ht3 rfl
      refine ⟨_, rfl, .inl ⟨rfl, _, SqL.of hpl5⟩, _, rfl, _, rfl, _, rfl, t, _, 0, _, rfl, rfl, SqT.of ht5, atI_nat (j := 0) rfl, _, rfl, t, _, 1, _, rfl, rfl, SqT.of ht5, atI_nat (j := 1) rfl, d, sc, W.p, W.n, rfl, dk4, ok.p2, ok.p251, ok.n1, ok.n10, fun rv H6 r f2 dk5 hrow irow nz => ?_⟩
      refine ⟨_, rfl, d, sc, 12, rfl, dk5, by omega, by omega, fun z H7 f3 dk6 z0 z1 => ⟨1, z, rfl, rfl, by show 2 ≤ sizeLine; decide, fun T nT => ?_⟩⟩
      have hpl7 := dkeep f3 (dkeep f2 hpl5 npd) npd
      have eT : Ex H7 (upd H7 T (.tup [rv, .int (1 + z)])) := Ex.new nT
      have hplT := eT _ _ hpl7
      refine ⟨pl, ys, at_, _, rfl, rfl, hplT, ?_, a0, by omega, ?_⟩
      · rw [sizeLine_eq]
        omega
      · have F : Ex (rm H4 d) H7 := dtr (dtr f1 f2) f3
        have FT : Ex (rm H4 d) (upd H7 T (.tup [rv, .int (1 + z)])) := F.trans eT
        have eTT : ExT H4 (upd (upd H7 T (.tup [rv, .int (1 + z)])) pl (.lst (ys.take at_.toNat ++ [.ref T] ++ ys.drop at_.toNat))) := (dk3.t FT).mut hplT rfl
        obtain ⟨ra, rfl, hra⟩ := hrow
        have hra7 := (dk5.t f3) _ _ hra rfl
        have hra2 : (upd (upd H7 T (.tup [.ref ra, .int (1 + z)])) pl (.lst (ys.take at_.toNat ++ [.ref T] ++ ys.drop at_.toNat))) ra = some (.tup (r.map V.int)) := by
          rw [upd_ne (ne_of (eT _ _ hra7) hplT (by intro z; cases z))]
          exact eT _ _ hra7
        have hT2 : (upd (upd H7 T (.tup [.ref ra, .int (1 + z)])) pl (.lst (ys.take at_.toNat ++ [.ref T] ++ ys.drop at_.toNat))) T = some (.tup [.ref ra, .int (1 + z)]) := by
          rw [upd_ne (ne_of upd_same hplT (by intro z; cases z)), upd_same]
        have hq2 := hqs.mono fun _ _ q => PieceAt.t eTT q
        refine ⟨_, _, rfl, Ex.mut (dtr F0 FT) npl1, (dk6.on eT).upd npd nps, qs.take at_.toNat ++ [(r, 1 + z)] ++ qs.drop at_.toNat, _, upd_same, ?_, fun q hq => ?_, ?_⟩
        · exact paired_app (paired_app (paired_take _ hq2) (.cons ⟨T, ra, rfl, hT2, hra2⟩ .nil)) (paired_drop _ hq2)
        · rcases List.mem_append.mp hq with hq | hq
          · rcases List.mem_append.mp hq with hq | hq
            · exact hok q (List.mem_of_mem_take hq)
            · rw [List.mem_singleton.mp hq]
              exact ⟨irow, nz, by show 1 ≤ 1 + z; omega, by show 1 + z ≤ 1000000; omega⟩
          · exact hok q (List.mem_of_mem_drop hq)
        · rw [List.length_append, List.length_append, List.length_take, List.length_drop, List.length_singleton]
          omega
    · obtain ⟨u3, u4, rfl, F0, dk3, qs, ys, hpl3, hqs, hok, hlen⟩ := h
      have ht3 := (dk.t F0) _ _ ht rfl
      refine ⟨_, rfl, t, _, 0, _, rfl, rfl, SqT.of ht3, atI_nat (j := 0) rfl, _, rfl, t, _, 1, _, rfl, rfl, SqT.of ht3, atI_nat (j := 1) rfl, _, rfl, .inl ⟨pl, ys, rfl, SqL.of hpl3, fun tp ntp => ⟨by show 3 ≤ sizeLine; decide, fun T nT => ?_⟩⟩⟩
      have e4 : Ex H3 (upd H3 tp (.tup ys)) := Ex.new ntp
      have e5 : Ex (upd H3 tp (.tup ys)) (upd (upd H3 tp (.tup ys)) T (.tup [.int W.p, nV W.n, .ref tp])) := Ex.new nT
      have e6 := e4.trans e5
      have hl12 : qs.length ≤ 12 := by omega
      exact k _ _ ⟨W.p, W.n, qs⟩ (F0.trans e6) (dk3.on e6) ⟨T, tp, rfl, upd_same, ys, e5 _ _ upd_same, hqs.mono fun _ _ q => q.t (Ex.t e6)⟩ ⟨ok.p2, ok.p251, ok.pr, ok.inv, ok.n1, ok.n10, by show qs.length ≤ 40; omega, hok⟩ hl12
end
end Wk
end

section
set_option Elab.async false
set_option linter.all false
set_option maxRecDepth 100000
set_option maxHeartbeats 2000000
/-! sorted(lots, key=lambda one: (len(one), one)): a permutation -/
namespace Wk
open PySem PySem.Spec PyProof.Rows L2 Evl Rk
abbrev Tb := List (Addr × Str)
/-- the datum by which a lot is sorted -/
def keyD (l : List Nat) : PyData := .tuple [.int (l.length : Int), .tuple (l.map fun i : Nat => .int (i : Int))]
theorem readsAll_ints {h : Heap} : ∀ {l : List Nat} {its : List Value}, Vals (l.map nV) its → ReadsAll h its (l.map fun i : Nat => PyData.int (i : Int)) []
  | [], its, r => by
    cases r
    exact .nil
  | i :: l, its, r => by
    cases r with
    | cons a b =>
      obtain ⟨t, e⟩ : ∃ t, _ = Value.int (i : Int) t := a
      rw [e]
      exact ReadsAll.cons (as := []) (bs := []) (Reads.int _ _) (readsAll_ints b)
theorem keyD_alike (ls : List (List Nat)) : PySem.W.AllAlike (ls.map keyD) := by
  refine PySem.W.AllAlike.of fun a b => ?_
  have h : PySem.W.alikeAll (a.map fun i : Nat => PyData.int (i : Int)) (b.map fun i : Nat => PyData.int (i : Int)) = true := by
    have z := PySem.W.alike_ints (a.map fun i : Nat => (i : Int)) (b.map fun i : Nat => (i : Int))
    rw [List.map_map, List.map_map] at z
    exact z
  simp only [keyD, PySem.W.alike, PySem.W.alikeAll, h, Bool.and_true]
theorem keyD_depth (l : List Nat) : (keyD l).depth ≤ 8 := by
  have h : ∀ l : List Nat, PyData.depthAll (l.map fun i : Nat => PyData.int (i : Int)) = 0 := by
    intro l
    induction l with
    | nil => rfl
    | cons i l ih => simp [PyData.depthAll, PyData.depth, ih]
  simp [keyD, PyData.depth, PyData.depthAll, h]
/-- a lot's value in the heap -/
def LotV (H : Hp) (v : Value) (l : List Nat) : Prop := ∃ t, v = .ref t ∧ H t = some (.tup (l.map nV))
theorem lotV_of {H : Hp} : ∀ {ys : List V} {ls : List (List Nat)} {us : List Value}, Paired (fun y l => LotAt l y H) ys ls → Vals ys us → PySem.W.EachIs (LotV H) us ls
  | _, _, us, .nil, r => by
    cases r
    exact .nil
  | _, _, us, .cons a p, r => by
    cases r with
    | cons b q =>
      obtain ⟨t, rfl, ht⟩ := a
      exact .cons ⟨t, b, ht⟩ (lotV_of p q)
theorem lotV_back {H : Hp} {ls : List (List Nat)} {us : List Value} (h : PySem.W.EachIs (LotV H) us ls) : (∀ u ∈ us, ∃ a, u = Value.ref a) ∧ Paired (fun y l => LotAt l y H) (us.map backV) ls := by
  induction h with
  | nil => exact ⟨fun u hu => absurd hu (by simp), .nil⟩
  | cons a b ih =>
    obtain ⟨t, rfl, ht⟩ := a
    refine ⟨fun u hu => ?_, .cons ⟨t, rfl, ht⟩ ih.2⟩
    rcases List.mem_cons.mp hu with rfl | hu
    · exact ⟨t, rfl⟩
    · exact ih.1 u hu
/-- the names of the lambda -/
structure OneS (x : Str) (scope : Scope) : Prop where
  kind : scope.kind = .function
  co : scope.isCoroutine = false
  gen : scope.isGenerator = false
  own : ∀ y ∈ scope.names, y.2 ≠ .free ∧ y.2 ≠ .cell
  one : scope.names.lookup x = some .local
  len : scope.names.lookup ("len" : Str) = some .globalImplicit
def tSortL (T : Tb) (ta : TE) : TE := fun σ H Q => ta σ H fun x H1 => ∃ (a : Addr) (ys : List V) (ls : List (List Nat)), x = .ref a ∧ H1 a = some (.lst ys) ∧ Paired (fun y l => LotAt l y H1) ys ls ∧ LamX.Tabs T H1 ∧
  ∀ H2 ys' ls' e, LamX.ExtN H1 H2 → LamX.Tabs T H2 → ls'.Perm ls → Paired (fun y l => LotAt l y H2) ys' ls' → H2 e = none → Q (.ref e) (upd H2 e (.lst ys'))
section
variable {X : Cx}
theorem pe_sortLam {T : Tb} {c P : Addr} {k : Nat} {x : Str} {fx : Str} {fp : Pos} {ta : TE} {params : Arguments} {scope : Scope} {cx : Nat} {p p1 p2 p3 p4 p5 kp lpos pos : Pos}
    (hg : Gl X "sorted") (hm : X.mg "sorted" = none) (hlen : X.mg "len" = none) (ha : PE X (.Name fx fp) ta)
    (TB : LamX.TabB X.base X.mg c P) (hcode : X.env.code = .ref c) (hmT : (P, X.env.qual ++ "<lambda>") ∈ T) (hu : ∀ p ∈ T, p.1 = P → p.2 = X.env.qual ++ "<lambda>") (hr : Room (k + 2) X.A) (L : OneS x scope) (hdef : defaultsOf params X.env = ([], []))
    (hbind : ∀ (q : Str) (cl : List (Str × Addr)) (pm cv ctv v : Value), bindArgs (PySem.W.kla_fn "<lambda>" q params (.Tuple [.Call (.Name "len" p1) [.Name x p2] [] p3, .Name x p4] cx p5) scope cl pm cv ctv) ⟨[v], []⟩ = pure [(x, v)])
    (hxd : (x == ("__debug__" : Str)) = false) :
    PE X (.Call (.Name "sorted" p) [.Name fx fp] [⟨some "key", .Lambda params (.Tuple [.Call (.Name "len" p1) [.Name x p2] [] p3, .Name x p4] cx p5) scope lpos, kp⟩] pos) (tSortL T ta) := by
  refine ⟨fun pins s σ H Q I h => ?_⟩
  refine wpAny_Call_Name_kw (ld_blt I hg hm (show bootBuiltins "sorted" = some (.builtin "sorted") by decide +kernel) ?_)
  refine PyProof.Rows.callWith_kw (Calls.spliced_cons (thn (ha.run pins s σ H _ I h) fun u s1 ⟨y, H1, I1, r1, q1⟩ => Calls.spliced_nil ?_)) (by rfl) (by rfl) (by rfl) (by rfl)
  obtain ⟨a, ys, ls, rfl, hya, hp, hT, hq⟩ := q1
  obtain rfl : u = .ref a := r1
  refine PyProof.Rows.kws_cons (LamX.lam_make2 I1 TB hcode hmT hu hT hdef (fun y hy hf => absurd hf (L.own y hy).1) fun f c' pm' ctv H2 s' I2 eN T2 hf hfn hfr hco => ?_)
  refine PyProof.Rows.kws_nil ?_
  have hya2 : H2 a = some (.lst ys) := eN _ _ hya (fun q z => by cases z)
  have hp2 : Paired (fun y l => LotAt l y H2) ys ls := L2.Paired.mapP hp fun y l ⟨t, e, ht⟩ => ⟨t, e, eN _ _ ht (fun q z => by cases z)⟩
  obtain ⟨its, rv, hl, hz⟩ := I2.list (SqL.of hya2)
  have hls : ls.length ≤ sizeLine := by rw [← hp2.length]; exact hz
  obtain ⟨⟨oc, ocs, ot, hoc, hdc, hvc⟩, _, _⟩ := I2.hok c' _ hco
  have hdp := hr.dp
  have hun := hr.un
  show wpAny (model X.prog X.w) X.A (call (.builtin "sorted") [.ref a] [(Str.ofString "key", .ref f)]) _ _ s'
  refine PySem.W.sorted_key_data (b := false) keyD hl.isList (lotV_of hp2 rv) (keyD_alike ls) (PySem.W.Sortable.tuples fun _ => ⟨_, _, rfl⟩) hls (fun l _ => ?_) (ksk_s1 _ _) (fun _ => ksk_l1 _ _) (fun _ => ksk_t1 _ _) (fun v l hv _ hh tk kp => ?_) fun out cc h' tk kp hfr2 hD hlo eo => ?_
  · have := keyD_depth l
    omega
  · obtain ⟨t, rfl, ht⟩ := hv
    obtain ⟨hz2, its2, rv2, hit⟩ := I2.hok t _ ht
    have hit' : IsTup hh t its2.toArray := by
      obtain ⟨o, e1, e2, e3⟩ := hit
      exact ⟨o, kp _ _ e1, e2, e3⟩
    obtain ⟨mb, hb1, hb2⟩ := I2.mod.blt
    have kb : ∀ b o, X.base.get? b = some o → hh.get? b = some o := fun b o e => kp _ _ (I2.bk b o e)
    refine wpAny_call ?_
    refine PySem.W.kla_callFunE (by show X.A.depth < recursionLimit; omega) (kp _ _ hf) rfl L.co L.gen rfl ⟨c', oc, ocs, ot, rfl, kp _ _ hoc, hdc, hvc⟩ ?_
    rw [hbind]
    refine wpAny_pure (wpAny_newFunctionEnv (fun y hy => (L.own y hy).2) (fun y hy => by rw [List.mem_singleton.mp hy]; exact L.one) (fun h₁ hns hsb => ⟨(I2.nolimit.keeps kp).fresh _ hsb, ?_⟩) L.kind)
    have kq : ∀ b o, hh.get? b = some o → h₁.get? b = some o := fun b o e => hsb.extBut b o (Nat.ne_of_lt (Heap.lt_size e)) (Heap.get?_push_of_some _ e)
    have hit2 : IsTup h₁ t its2.toArray := by
      obtain ⟨o, e1, e2, e3⟩ := hit'
      exact ⟨o, kq _ _ e1, e2, e3⟩
    refine PySem.W.kla_codeExpr ?_
    refine wpAny_mono (E := fun _ _ => False) (wpAny_Tuple_spliced ?_) (fun v s' hv => hv) fun _ _ hv => hv.elim
    refine Calls.spliced_cons (x := eval (.Call (.Name "len" p1) [.Name x p2] [] p3) _) ?_
    refine wpAny_Call_Name_kw (wpAny_Name (PySem.W.ks_loadName_global L.kind L.len (Calls.loadGlobal_builtin (I2.mod.glob.keeps fun b o e => kq _ _ (kb b o e)) hlen (hb1.keeps fun b o e => kq _ _ (kb b o e)) ((hb2 _ (by decide)).trans (show bootBuiltins "len" = some (.builtin "len") by decide +kernel)) ?_)) (by decide))
    refine Calls.callWith_builtin (by rfl) ?_
    refine PySem.Calls.evalArgs_plain (Calls.spliced_cons (Tm.ldAt (s := { s' with heap := h₁, toks := _ }) hns (v := .ref t) (by simp) (Calls.spliced_nil ?_) L.kind L.one hxd))
    have hn2 : its2.length = l.length := by rw [← rv2.length, List.length_map]
    have hz3 : its2.length ≤ sizeLine := by rw [← rv2.length]; exact hz2
    rw [sizeLine_eq] at hz3
    have hsz : its2.toArray.size = l.length := by simp [hn2]
    refine len_tuple hit2 (by rw [List.size_toArray]; omega) ?_
    rw [hsz]
    refine Calls.spliced_cons (Tm.ldAt (s := { s' with heap := h₁, toks := _ }) hns (v := .ref t) (by simp) (Calls.spliced_nil ?_) L.kind L.one hxd)
    refine ⟨by rw [sizeLine_eq]; show 2 ≤ 16777216; omega, ?_⟩
    refine ⟨_, _, rfl, fun b o e => Heap.get?_push_of_some _ (kq _ _ e), ?_⟩
    obtain ⟨o, e1, e2, n, e3⟩ := hit2
    exact Reads.tuple (Heap.get?_push_size _ rfl) rfl rfl (ReadsAll.cons (as := []) (bs := []) (Reads.int _ _) (ReadsAll.cons (as := []) (bs := []) (Reads.tuple (Heap.get?_push_of_some _ e1) e2 e3 (readsAll_ints rv2)) ReadsAll.nil))
  · obtain ⟨hb1, hb2⟩ := lotV_back eo
    have hpm : (ls.mergeSort (PySem.W.dataLe false keyD)).Perm ls := List.mergeSort_perm _ _
    refine ⟨.ref (s'.heap.objs.size + 1), _, I2.laid (t' := tk) (a := s'.heap.objs.size + 1) (o := .lst (out.map backV)) kp (Nat.le_succ _) ⟨by rw [List.length_map, hlo]; exact hls, out, cc, vals_back hb1, hD⟩, rfl, hq H2 _ _ _ eN T2 hpm hb2 (I2.hok.fresh (Nat.le_succ _))⟩
end
end Wk
end

section
set_option Elab.async false
set_option linter.all false
set_option maxRecDepth 100000
set_option maxHeartbeats 2000000
namespace Wk
open PySem PySem.Spec PyProof.Rows L2 Evl Rk
theorem kx_catA {X : Cx} {K : PySem.W.Frag} (hK : X.K = K) : OpR X (binaryOp .Add) (rCatA K) := hK ▸ op_catA
/-- the lambda's name -/
def lamQ : Str := ("_law_lots" : Str) ++ ".<locals>." ++ "<lambda>"
section
variable {K : PySem.W.Frag} {base : Heap} {mg : Str → Option Value} {P : Program} {w : World}
theorem FunD.okC {CX : CXT} {N ps : List Str} {k : Nat} {sp : Sp} {x qual : Str} {params : Arguments} {body : List Stmt} {scope : Scope} {dvs : List V} {kws : List (Str × V)} {f : Addr} {fd : FuncData} (F : FunD K x qual params body scope dvs kws f fd) (S : FnScope N ps scope) (len : ∀ vs H Q E, sp vs H Q E → vs.length = ps.length)
    (walk : ∀ (cdv : Value) (A : Around) (stk : List PySem.Env) (s : Shared) (H : Hp) (vs : List V) (Q : VK) (E : XK), fd.code = cdv → Room k (A.deeper (envOfC qual scope s.heap.objs.size f cdv)) → sp vs H Q E →
      ∃ t : TS, PSs (cxOf CX P w K mg base N qual scope f cdv A stk s H E) body t ∧ t { nx := fun _ H' => Q .non H', rt := Q } (start N vs) H) : FnOk P w K mg base CX (k + 1) f fd ps sp := by
  obtain ⟨o1, o2, v1, v2, v3, v4, an, cdv, ct, sl, rfl, lk, hcode, -, -⟩ := F.ex
  exact fn_of lk hcode S len fun A stk s H vs Q E hr hsp => walk cdv A stk s H vs Q E rfl hr hsp
/-- the table of _law_lots -/
structure LamT (E : Env K mg) (base : Heap) (c Pt : Addr) : Prop where
  code : E.d__law_lots.fd.code = .ref c
  tb : LamX.TabB base mg c Pt
def lamExpr : List Stmt → Expr
  | [_, _, .Return (some (.Call _ _ [⟨_, e, _⟩] _)) _] => e
  | _ => .Constant .none 0 ⟨0, 0, 0, 0⟩
def lamSc : Expr → Scope
  | .Lambda _ _ s _ => s
  | _ => defScope (.Pass ⟨0, 0, 0, 0⟩)
theorem one_lots : OneS "_law_one" (lamSc (lamExpr (defBody s__law_lots))) := ⟨by decide +kernel, by decide +kernel, by decide +kernel, by decide +kernel, by decide +kernel, by decide +kernel⟩
def sp__law_lots (T : Tb) : Sp := fun vs H Q _ => ∃ (v : V) (l : List Nat), vs = [v] ∧ LotAt l v H ∧ l.length ≤ 12 ∧ LamX.Tabs T H ∧ ∀ H' a ys ls, LamX.ExtN H H' → LamX.Tabs T H' → H' a = some (.lst ys) → Paired (fun y l => LotAt l y H') ys ls → ls.Perm (Mth.subsF l) → Q (.ref a) H'
theorem paired_flip {α β : Type} {F : α → β → Prop} : ∀ {l : List α} {m : List β}, Paired F l m → Paired (fun b a => F a b) m l
  | _, _, .nil => .nil
  | _, _, .cons h t => .cons h (paired_flip t)
theorem LotAt.n {l : List Nat} {v : V} {H H' : Hp} (e : LamX.ExtN H H') (h : LotAt l v H) : LotAt l v H' := by
  obtain ⟨a, h1, h2⟩ := h
  exact ⟨a, h1, e _ _ h2 (fun q z => by cases z)⟩
theorem LotAt.on {l : List Nat} {v : V} {H H' : Hp} (e : Ex H H') (h : LotAt l v H) : LotAt l v H' := LotAt.t (Ex.t e) h
theorem sq_catA {l : List Nat} {v : V} {H : Hp} {p : Nat} {q : Addr} {Q : VK} (hl : LotAt l v H) (hq : H q = some (.tup [nV p])) (h12 : l.length ≤ 1000) (k : Ret H (fun y H' => LotAt (l ++ [p]) y H') Q) : rCatA K v (.ref q) H Q := by
  obtain ⟨t, rfl, ht⟩ := hl
  refine ⟨t, q, _, _, rfl, rfl, SqT.of ht, SqT.of hq, ?_, fun e => ?_, fun _ e => absurd e (List.cons_ne_nil _ _), fun _ _ z nz => ?_⟩
  · rw [List.length_map, sizeLine_eq]
    show l.length + 1 ≤ _
    omega
  · have e2 : l = [] := List.map_eq_nil_iff.mp e
    subst e2
    exact k _ _ (Ex.refl _) fun H' e' => ⟨q, rfl, e' _ _ hq⟩
  · refine k _ _ (Ex.new nz) fun H' e' => ⟨z, rfl, ?_⟩
    rw [e' _ _ upd_same, List.map_append] <;> rfl
theorem ok__law_lots (E : Env K mg) {T : Tb} {c Pt : Addr} (LT : LamT E base c Pt) (hmT : (Pt, lamQ) ∈ T) (huT : ∀ p ∈ T, p.1 = Pt → p.2 = lamQ) : FnOk P w K mg base CX0 3 E.d__law_lots.f E.d__law_lots.fd ["_law_lot_here"] (sp__law_lots T) := by
  refine FunD.okC E.d__law_lots.F sc__law_lots (fun vs H Q E h => ?_) (fun cdv A outer s H vs Q E' hcd hr h => ?_)
  · obtain ⟨v, l, rfl, _⟩ := h
    rfl
  · obtain ⟨v, l, rfl, ⟨a, rfl, ha⟩, l12, hT, k⟩ := h
    have hc : cdv = .ref c := by rw [← hcd]; exact LT.code
    have TB := LT.tb
    refine ⟨_, PSs.nox (pss_cons (ps_set (i := 1) sc__law_lots.nd rfl (by first | exact Or.inl rfl | exact Or.inr rfl) (pe_lst (pa_cons (pe_tup pa_nil) pa_nil))) (pss_cons (ps_for PassesOwn.never rfl (pi_tup (pv 0)) (pg_name (i := 2) sc__law_lots.nd rfl (by first | exact Or.inl rfl | exact Or.inr rfl)) (pss_one (ps_set (i := 1) sc__law_lots.nd rfl (by first | exact Or.inl rfl | exact Or.inr rfl) (pe_op op_cat (pv 1) (pe_lc (own := [("_law_one", 3)]) (g := gName 3) rfl sc__law_lots.nd (pi_list (pv 1)) (blkOk_by (N := n__law_lots) (sc := defScope s__law_lots) (by decide +kernel)) (fun _ _ _ _ _ => (pg_name (i := 3) sc__law_lots.nd rfl (by first | exact Or.inl rfl | exact Or.inr rfl))) (fun _ _ _ _ _ => pts_nil) (fun _ _ _ _ _ => (pe_op (kx_catA (K := K) (by rfl)) (pv 3) (pe_tup (pa_cons (pv 2) pa_nil))))))))) (pss_one (ps_ret (pe_sortLam (T := T) (x := "_law_one") (by rfl) E.f_sorted E.f_len (pv 1) TB hc hmT huT hr one_lots (by rfl) (fun _ _ _ _ _ _ => by rfl) (by decide)))))), ?_⟩
    refine ⟨by show 0 ≤ sizeLine; decide, fun e0 ne0 => ⟨by show 1 ≤ sizeLine; decide, fun p0 np0 => ?_⟩⟩
    have x0 : Ex H (upd (upd H e0 (.tup [])) p0 (.lst [.ref e0])) := (Ex.new ne0).trans (Ex.new np0)
    have hp0 : (upd (upd H e0 (.tup [])) p0 (.lst [.ref e0])) p0 = some (.lst [.ref e0]) := upd_same
    have he0 : LotAt [] (.ref e0) (upd (upd H e0 (.tup [])) p0 (.lst [.ref e0])) := ⟨e0, rfl, (Ex.new np0) _ _ upd_same⟩
    generalize upd (upd H e0 (.tup [])) p0 (.lst [.ref e0]) = H1 at x0 hp0 he0
    refine ⟨_, rfl, a, rfl, ⟨_, SqT.of (x0 _ _ ha)⟩, for_tup (xs := l.map nV) (fun i σ H' => ∃ b ys u2 u3, σ = [some (.ref a), some (.ref b), u2, u3] ∧ Ex H H' ∧ H' b = some (.lst ys) ∧ Paired (fun (s : List Nat) y => LotAt s y H') (Mth.subsF (l.take i)) ys)
      ⟨p0, [.ref e0], none, none, rfl, x0, hp0, .cons he0 .nil⟩ (fun i σ H' _ h => ?_) (fun i y σ H' hi h => ?_) fun σ H' h => ?_⟩
    · obtain ⟨_, _, _, _, _, e, _⟩ := h
      exact SqT.of (e _ _ ha)
    · obtain ⟨b, ys, u2, u3, rfl, e1, hb, hp⟩ := h
      obtain ⟨p, hpi, rfl⟩ : ∃ p, l[i]? = some p ∧ y = nV p := by
        rw [List.getElem?_map] at hi
        cases hz : l[i]? with
        | none =>
          rw [hz] at hi
          cases hi
        | some p =>
          rw [hz] at hi
          exact ⟨p, rfl, (Option.some.inj hi).symm⟩
      have hil : i < l.length := (List.getElem?_eq_some_iff.mp hpi).1
      have htk : l.take (i + 1) = l.take i ++ [p] := by
        rw [List.take_add_one, hpi] <;> rfl
      have hsl : (Mth.subsF (l.take i)).length ≤ 4096 := by
        rw [Mth.subsF_len, List.length_take]
        exact Nat.le_trans (Nat.pow_le_pow_right (by decide) (show min i l.length ≤ 12 by omega)) (by decide)
      have hyl : ys.length ≤ 4096 := by rw [← hp.length]; exact hsl
      have hf : ((Mth.subsF (l.take i)).filter fun _ => true) = Mth.subsF (l.take i) := List.filter_eq_self.mpr fun _ _ => rfl
      refine s_asgP (P := fun v H3 => ∃ b' ys', v = .ref b' ∧ H3 b' = some (.lst ys') ∧ Paired (fun (s : List Nat) y => LotAt s y H3) (Mth.subsF (l.take (i + 1))) ys') (evp_opR (x := .ref b) (ev_var rfl) (lc_evp (as := Mth.subsF (l.take i)) (R := fun s v => LotAt s v H') (ei_list (ev_var rfl) (SqL.of hb)) hp (fun _ => true) (fun s y H3 => LotAt (s ++ [p]) y H3) (fun s y H2 H3 e q => LotAt.t e q) (by omega) (fun _ => by rfl) (fun _ _ _ _ _ _ => et_yes) fun s v H2 e2 hs hv _ => ?_) fun v H2 e2 pv Q1 r1 => ?_) fun v H2 e2 pv => ?_
      · have hs12 : s.length ≤ 1000 := by
          have q := ((Mth.mem_subsF _ _).mp hs).length_le
          rw [List.length_take] at q
          omega
        refine evp_opR (P := fun u H3 => ∃ q, u = .ref q ∧ H3 q = some (.tup [nV p])) (x := v) (ev_var rfl) (fun H3 e3 Q3 r3 => eu_tup (vs := [nV p]) (ea_cons (ev_var rfl) ea_nil) (by show 1 ≤ 100000; decide) H3 (Ex.refl _) Q3 fun q H4 nq e4 hq => r3 _ _ e4 fun H5 e5 => ⟨q, rfl, e5 _ _ hq⟩) fun u H3 e3 pu Q3 r3 => ?_
        obtain ⟨q, rfl, hq⟩ := pu.now
        exact sq_catA (LotAt.on (e2.trans e3) hv) hq hs12 r3
      · rw [hf] at pv
        obtain ⟨q, zs, rfl, nq, hq, hz⟩ := pv.now
        have hzl : zs.length ≤ 4096 := by rw [← hz.length]; exact hsl
        refine ⟨b, q, ys, zs, rfl, rfl, e2 _ _ hb, hq, by rw [sizeLine_eq]; omega, fun z nz => r1 _ _ (Ex.new nz) fun H3 e3 => ⟨z, _, rfl, e3 _ _ upd_same, ?_⟩⟩
        rw [htk, Mth.subsF_snoc]
        have ee : Ex H2 H3 := (Ex.new nz).trans e3
        exact paired_app (hp.mono fun _ _ x => LotAt.on (e2.trans ee) x) (paired_mapl (hz.mono fun _ _ x => LotAt.on ee x))
      · obtain ⟨b', ys', rfl, h1, h2⟩ := pv.now
        exact ⟨b', ys', _, _, rfl, e1.trans e2, h1, h2⟩
    · obtain ⟨b, ys, u2, u3, rfl, e1, hb, hp⟩ := h
      rw [List.length_map, List.take_length] at hp
      refine ⟨_, rfl, b, ys, _, rfl, hb, paired_flip hp, hT.ext e1, fun H2 ys' ls' e x2 t2 pm hp2 ne => ?_⟩
      have ee : Ex H2 (upd H2 e (.lst ys')) := Ex.new ne
      exact k _ e ys' ls' ((LamX.ExtN.of e1).trans (x2.trans (LamX.ExtN.of ee))) (t2.ext ee) upd_same (hp2.mono fun _ _ x => LotAt.on ee x) pm
end
end Wk
end

section
set_option Elab.async false
set_option linter.all false
set_option maxRecDepth 100000
set_option maxHeartbeats 2000000
namespace Wk
open PySem PySem.Spec PyProof.Rows L2 Evl Rk
/-! ### a dict whose keys are lots -/
def kl (s : List Nat) : List Key := s.map fun i : Nat => Sum.inl (i : Int)
theorem kl_v (s : List Nat) : (kl s).map kV = s.map nV := by
  unfold kl
  rw [List.map_map]
  exact List.map_congr_left fun _ _ => rfl
theorem kl_inj : ∀ {s t : List Nat}, kl s = kl t → s = t
  | [], [], _ => rfl
  | [], _ :: _, h => by cases h
  | _ :: _, [], h => by cases h
  | a :: s, b :: t, h => by
    unfold kl at h
    rw [List.map_cons, List.map_cons] at h
    injection h with h1 h2
    have h3 : (a : Int) = (b : Int) := Sum.inl.inj h1
    have h4 : a = b := by omega
    rw [h4, kl_inj (show kl s = kl t from h2)]
/-- the dict of the lots -/
def dl (f : List Nat → Bool) (ls : List (List Nat)) : List (List Key × V) := ls.map fun s => (kl s, V.bl (f s))
theorem dl_get {f : List Nat → Bool} : ∀ {ls : List (List Nat)} {s : List Nat}, s ∈ ls → valV (dl f ls) (kl s) = some (.bl (f s))
  | t :: ls, s, h => by
    show valV ((kl t, V.bl (f t)) :: dl f ls) (kl s) = _
    by_cases e : t = s
    · subst e
      exact valV_pos (p := (kl t, V.bl (f t))) rfl
    · rw [valV_neg (p := (kl t, V.bl (f t))) (fun z => e (kl_inj z))]
      rcases List.mem_cons.mp h with h | h
      · exact absurd h.symm e
      · exact dl_get h
theorem dl_none {f : List Nat → Bool} : ∀ {ls : List (List Nat)} {s : List Nat}, s ∉ ls → valV (dl f ls) (kl s) = none
  | [], s, _ => rfl
  | t :: ls, s, h => by
    show valV ((kl t, V.bl (f t)) :: dl f ls) (kl s) = _
    rw [valV_neg (p := (kl t, V.bl (f t))) (fun z => h (by rw [kl_inj z]; exact List.mem_cons_self))]
    exact dl_none fun z => h (List.mem_cons_of_mem _ z)
theorem dl_put {f : List Nat → Bool} {ls : List (List Nat)} {i : Nat} {s : List Nat} (nd : ls.Nodup) (h : ls[i]? = some s) : putK (dl f (ls.take i)) (kl s) (.bl (f s)) = dl f (ls.take (i + 1)) := by
  have hn : s ∉ ls.take i := fun z => by
    obtain ⟨j, hj, e⟩ := List.mem_iff_getElem.mp z
    rw [List.getElem_take] at e
    rw [List.length_take] at hj
    have hi := (List.getElem?_eq_some_iff.mp h)
    obtain ⟨hi1, hi2⟩ := hi
    have := (List.nodup_iff_pairwise_ne.mp nd)
    have q := List.pairwise_iff_getElem.mp this j i (by omega) hi1 (by omega)
    exact q (e.trans hi2.symm)
  rw [putK_new _ (dl_none hn), List.take_add_one, h]
  show _ = dl f (ls.take i ++ [s])
  unfold dl
  rw [List.map_append] <;> rfl
theorem dl_len {f : List Nat → Bool} {ls : List (List Nat)} : (dl f ls).length = ls.length := List.length_map _
section
variable {K : PySem.W.Frag} {base : Heap} {mg : Str → Option Value} {P : Program} {w : World}
theorem LWebAt.n' {W : Wb} {v : V} {H H' : Hp} (e : LamX.ExtN H H') (h : LWebAt W v H) : LWebAt W v H' := h.t fun a o ho hf => e _ _ ho (fun q z => by
  rw [z] at hf
  cases hf)
theorem ev_dgetP {σ : L2.St} {H : Hp} {td ty : TE} {a : Addr} {v : V} {Pp : V → Hp → Prop} (hd : Ev td σ H (.ref a)) (hy : EvP ty σ H Pp) (h : ∀ y H1, Ex H H1 → Pp y H1 → DGet H1 a y (some v)) : Ev (tDGet td ty) σ H v :=
  fun H1 e1 Q q => hd H1 e1 _ fun H2 e2 => hy H2 (e1.trans e2) _ fun y H3 e3 py => ⟨a, v, rfl, h y H3 ((e1.trans e2).trans e3) py.now, q H3 (e2.trans e3)⟩
theorem evp_one {σ : L2.St} {H : Hp} {te : TE} {p : Nat} (h : Ev te σ H (nV p)) : EvP (tTup (tCons te tNil)) σ H (LotAt [p]) := fun H3 e3 Q3 r3 => eu_tup (vs := [nV p]) (ea_cons h ea_nil) (by show 1 ≤ 100000; decide) H3 e3 Q3 fun q H4 nq e4 hq => r3 _ _ e4 fun H5 e5 => ⟨q, rfl, e5 _ _ hq⟩
theorem evp_left {σ : L2.St} {H : Hp} {tu ts : TE} {u : V} {l s : List Nat} {E : XK} (hu : Ev tu σ H u) (hl : LotAt l u H) (hs : EvP ts σ H (LotAt s)) (h40 : l.length ≤ 40) : EvP (tCall sp_left_of [] E (tCons tu (tCons ts tNil))) σ H (LotAt (Mth.left l s)) :=
  fun H1 e1 Q r => hu H1 e1 _ fun H2 e2 => hs H2 (e1.trans e2) _ fun v H3 e3 pv => ⟨u, v, l, s, rfl, LotAt.on ((e1.trans e2).trans e3) hl, pv.now, h40, r.back (e2.trans e3)⟩
theorem dget_lot {H : Hp} {D : Addr} {f : List Nat → Bool} {ls : List (List Nat)} {s : List Nat} {v : V} (hD : H D = some (.dT (dl f ls))) (hv : LotAt s v H) (hs : s ∈ ls) : DGet H D v (some (.bl (f s))) := by
  obtain ⟨b, rfl, hb⟩ := hv
  have h := DGet.t (k := kl s) hD (by rw [kl_v]; exact hb)
  rw [dl_get hs] at h
  exact h
theorem dput_lot {H : Hp} {D : Addr} {f : List Nat → Bool} {ls : List (List Nat)} {i : Nat} {s : List Nat} {v : V} (hD : H D = some (.dT (dl f (ls.take i)))) (hv : LotAt s v H) (nd : ls.Nodup) (h : ls[i]? = some s) (hl : ls.length ≤ 4096) : DPut H D v (.bl (f s)) (upd H D (.dT (dl f (ls.take (i + 1))))) := by
  obtain ⟨b, rfl, hb⟩ := hv
  have hz := DPut.t (k := kl s) (v := .bl (f s)) hD (by rw [kl_v]; exact hb) (by rw [dl_len, List.length_take, sizeLine_eq]; omega)
  rw [dl_put nd h] at hz
  exact hz
theorem s_dputL {σ : L2.St} {H : Hp} {Dn : Ends} {td ty tv : TE} {D : Addr} {f : List Nat → Bool} {ls : List (List Nat)} {i : Nat} {s : List Nat} {y : V} (hv : Ev tv σ H (.bl (f s))) (hd : Ev td σ H (.ref D)) (hy : Ev ty σ H y) (hD : H D = some (.dT (dl f (ls.take i)))) (hl : LotAt s y H) (nd : ls.Nodup) (h : ls[i]? = some s) (hln : ls.length ≤ 4096)
    (q : ∀ H1, Ex H H1 → Dn.nx σ (upd H1 D (.dT (dl f (ls.take (i + 1)))))) : sDPut td ty tv Dn σ H := hv H (Ex.refl H) _ fun H1 e1 => hd H1 e1 _ fun H2 e2 => hy H2 (e1.trans e2) _ fun H3 e3 =>
  ⟨D, _, rfl, dput_lot (((e1.trans e2).trans e3) _ _ hD) (LotAt.on ((e1.trans e2).trans e3) hl) nd h hln, q H3 ((e1.trans e2).trans e3)⟩
theorem q_asgCall1 {sp : Sp} {dvs : List V} {E : XK} {te : TE} {i : Nat} {tz : TS} {D : Ends} {σ : L2.St} {H : Hp} {Pp : V → Hp → Prop} (h : EvP te σ H Pp) (k : ∀ v H1, Ex H H1 → Sta Pp v H1 → sp ([v] ++ dvs) H1 (fun u H2 => tz D (σ.set i (some u)) H2) E) : tSeq (tAsg (tCall sp dvs E (tCons te tNil)) (gName i)) tz D σ H := h H (Ex.refl H) _ fun v H1 e1 pv => k v H1 e1 pv
def sp__law_safe_lots (T : Tb) : Sp := fun vs H Q _ => ∃ (W : Wb) (wv : V) (k : Nat), vs = [wv, nV k] ∧ LWebAt W wv H ∧ Wok W ∧ W.ps.length ≤ 12 ∧ k ≤ 12 ∧ LamX.Tabs T H ∧ ∀ H' D ls, LamX.ExtN H H' → LamX.Tabs T H' → H' D = some (.dT (dl (Mth.safeT W.F (min k W.ps.length)) ls)) → ls.Perm (Mth.subsF (List.range W.ps.length)) → Q (.ref D) H'
theorem ok__law_safe_lots (E : Env K mg) {T : Tb} {c Pt : Addr} (LT : LamT E base c Pt) (hmT : (Pt, lamQ) ∈ T) (huT : ∀ p ∈ T, p.1 = Pt → p.2 = lamQ) : FnOk P w K mg base CX0 4 E.d__law_safe_lots.f E.d__law_safe_lots.fd ["_law_web_here", "_law_k"] (sp__law_safe_lots T) := by
  refine E.d__law_safe_lots.F.ok sc__law_safe_lots (fun vs H Q E h => ?_) (fun cdv A outer s H vs Q E' hr h => ?_)
  · obtain ⟨W, wv, k, rfl, _⟩ := h
    rfl
  · obtain ⟨W, wv, k, rfl, hw, ok, n12, k12, hT, kq⟩ := h
    refine ⟨_, PSs.nox (pss_cons (ps_set (i := 2) sc__law_safe_lots.nd rfl (by first | exact Or.inl rfl | exact Or.inr rfl) (pe_call (ok__law_lots E LT hmT huT) (hr.mono (by decide)) rfl E.d__law_lots.g E.d__law_lots.F.kp E.d__law_lots.b .nil pass0 (pa_cons (pe_tupRg rfl rfl E.f_tuple (prg_1 rfl E.f_range (pe_callB call_len_seq (by rfl) E.f_len (by decide +kernel) (pa_cons (pe_ix ix_tup (pv 0) pe_int (fun _ _ => rfl)) pa_nil)))) pa_nil))) (pss_cons (ps_set (i := 3) sc__law_safe_lots.nd rfl (by first | exact Or.inl rfl | exact Or.inr rfl) pe_dnewT) (pss_cons (ps_for PassesOwn.never rfl (pi_list (pv 2)) (pg_name (i := 4) sc__law_safe_lots.nd rfl (by first | exact Or.inl rfl | exact Or.inr rfl)) (pss_one (ps_dput (hu_of hr) (pv 3) (pv 4) (pe_call (ok__law_spans E) (hr.mono (by decide)) rfl E.d__law_spans.g E.d__law_spans.F.kp E.d__law_spans.b .nil pass0 (pa_cons (pv 0) (pa_cons (pv 4) pa_nil))) rfl))) (pss_cons (ps_for PassesOwn.never rfl (pi_range1 rfl E.f_range (pa_cons (pe_callB (call_min2 rfl) (by rfl) E.f_min (by decide +kernel) (pa_cons (pv 1) (pa_cons (pe_callB call_len_seq (by rfl) E.f_len (by decide +kernel) (pa_cons (pe_ix ix_tup (pv 0) pe_int (fun _ _ => rfl)) pa_nil)) pa_nil))) pa_nil)) (pg_name (i := 5) sc__law_safe_lots.nd rfl (by first | exact Or.inl rfl | exact Or.inr rfl)) (pss_cons (ps_set (i := 6) sc__law_safe_lots.nd rfl (by first | exact Or.inl rfl | exact Or.inr rfl) pe_dnewT) (pss_cons (ps_for PassesOwn.never rfl (pi_list (pv 2)) (pg_name (i := 4) sc__law_safe_lots.nd rfl (by first | exact Or.inl rfl | exact Or.inr rfl)) (pss_one (ps_dput (hu_of hr) (pv 6) (pv 4) (pe_and (pe_dget (hu_of hr) (pv 3) (pv 4) (fun _ _ => rfl)) (pe_one (pe_callB (cr_all rfl) (by rfl) E.f_all (by decide +kernel) (pa_cons (pe_lc (own := [("_law_piece", 7)]) (g := gName 7) rfl sc__law_safe_lots.nd (pi_tup (pv 4)) (blkOk_by (N := n__law_safe_lots) (sc := defScope s__law_safe_lots) (by decide +kernel)) (fun _ _ _ _ _ => (pg_name (i := 7) sc__law_safe_lots.nd rfl (by first | exact Or.inl rfl | exact Or.inr rfl))) (fun _ _ _ _ _ => pts_nil) (fun _ _ _ _ _ => (pe_dget (hu_of hr) (pv 3) (pe_call (ok__law_left E) (hr.mono (by decide)) rfl E.d__law_left.g E.d__law_left.F.kp E.d__law_left.b .nil pass0 (pa_cons (pv 4) (pa_cons (pe_tup (pa_cons (pv 7) pa_nil)) pa_nil))) (fun _ _ => rfl)))) pa_nil)))) rfl))) (pss_one (ps_set (i := 3) sc__law_safe_lots.nd rfl (by first | exact Or.inl rfl | exact Or.inr rfl) (pv 6)))))) (pss_one (ps_ret (pv 3))))))), ?_⟩
    obtain ⟨t, a, rfl, ht, hps⟩ := id hw
    obtain ⟨pvs, ha, hp⟩ := id hps
    have hlen : W.ps.length = pvs.length := hp.length
    refine q_asgCall1 (evp_tupRg (n := W.ps.length) (by rw [hlen]; exact ev_lenS (LWebAt.ps (W := W) ht (ev_var rfl) ev_c) (.inr (SqT.of ha))) (by omega)) fun v H1 e1 pv => ⟨v, _, rfl, pv.now, by rw [List.length_range]; exact n12, hT.ext e1, fun H2 al ys ls x2 t2 hal hys pm => ?_⟩
    have x02 : LamX.ExtN H H2 := (LamX.ExtN.of e1).trans x2
    have hw2 : LWebAt W (.ref t) H2 := hw.n' x02
    have nd : ls.Nodup := pm.nodup_iff.mpr (Mth.subsF_nodup _ List.nodup_range)
    have hln : ls.length ≤ 4096 := by
      rw [pm.length_eq, Mth.subsF_len, List.length_range]
      exact Nat.le_trans (Nat.pow_le_pow_right (by decide) n12) (by decide)
    have hmem : ∀ s, s ∈ ls ↔ s.Sublist (List.range W.ps.length) := fun s => by rw [pm.mem_iff, Mth.mem_subsF]
    have hsl : ∀ s, s ∈ ls → s.length ≤ 12 ∧ In W s := fun s hs => by
      have q := (hmem s).mp hs
      refine ⟨?_, fun i hi => List.mem_range.mp (q.subset hi)⟩
      have := q.length_le
      rw [List.length_range] at this
      omega
    intro D0 nD0
    refine ⟨_, rfl, al, rfl, ⟨ys, SqL.of ((Ex.new nD0) _ _ hal)⟩, for_list (xs := ys) (fun i σ H' => ∃ u4 u5 u6 u7, σ = [some (.ref t), some (nV k), some (.ref al), some (.ref D0), u4, u5, u6, u7] ∧ Ex H2 H' ∧ H' D0 = some (.dT (dl (Mth.safeT W.F 0) (ls.take i))))
      ⟨none, none, none, none, rfl, Ex.new nD0, upd_same⟩ (fun i σ H' _ h => ?_) (fun i y σ H' hi h => ?_) fun σ H' h => ?_⟩
    · obtain ⟨_, _, _, _, _, e, _⟩ := h
      exact SqL.of (e _ _ hal)
    · obtain ⟨u4, u5, u6, u7, rfl, e3, hD⟩ := h
      obtain ⟨s, hs, hsy⟩ := pget2 (paired_flip hys) hi
      have hsm := List.mem_of_getElem? hs
      obtain ⟨s12, hin⟩ := hsl s hsm
      have hsy' : LotAt s y H' := LotAt.on e3 hsy
      refine s_dputL (f := Mth.safeT W.F 0) (s := s) (y := y) ?_ (ev_var rfl) (ev_var rfl) hD hsy' nd hs hln fun H4 e4 => ?_
      · exact ev_callV (vs := [.ref t, y]) (ea_cons (ev_var rfl) (ea_cons (ev_var rfl) ea_nil)) fun H4 e4 Q4 r4 => ⟨W, .ref t, y, s, rfl, hw2.t (Ex.t (e3.trans e4)), ok, LotAt.on e4 hsy', hin, by omega, r4⟩
      · exact ⟨_, _, _, _, rfl, Ex.mut (e3.trans e4) nD0, upd_same⟩
    · obtain ⟨u4, u5, u6, u7, rfl, e3, hD⟩ := h
      rw [hys.length, List.take_length] at hD
      have hw3 : LWebAt W (.ref t) H' := hw2.t (Ex.t e3)
      have hys3 : Paired (fun y l => LotAt l y H') ys ls := hys.mono fun _ _ x => LotAt.on e3 x
      have hal3 := e3 _ _ hal
      obtain ⟨t', a', ht0, ht3, pvs3, ha3, hp3⟩ := id hw3
      cases ht0
      have hlen3 : W.ps.length = pvs3.length := hp3.length
      have hmin : (if (pvs3.length : Int) < (k : Int) then (pvs3.length : Int) else (k : Int)) = ((min k W.ps.length : Nat) : Int) := by
        rw [hlen3]
        by_cases z : (pvs3.length : Int) < (k : Int)
        · rw [if_pos z]
          omega
        · rw [if_neg z]
          omega
      dsimp only
      refine q_forR1 (n := ((min k W.ps.length : Nat) : Int)) ?_ (by omega) (fun i σ H4 => ∃ D u4 u5 u6 u7, σ = [some (.ref t), some (nV k), some (.ref al), some (.ref D), u4, u5, u6, u7] ∧ LamX.ExtN H H4 ∧ LamX.Tabs T H4 ∧ H4 al = some (.lst ys) ∧ Paired (fun y l => LotAt l y H4) ys ls ∧ H4 D = some (.dT (dl (Mth.safeT W.F i) ls)))
        (fun H4 e4 => ⟨D0, u4, u5, u6, u7, rfl, x02.trans (LamX.ExtN.of (e3.trans e4)), t2.ext (e3.trans e4), e4 _ _ hal3, hys3.mono fun _ _ x => LotAt.on e4 x, e4 _ _ hD⟩) (fun i σ H4 hi h => ?_) fun σ H4 h => ?_
      · refine ea_cons (ev_cb (vs := [nV k, .int (pvs3.length : Int)]) (ea_cons (ev_var rfl) (ea_cons (ev_lenS (LWebAt.ps (W := W) ht3 (ev_var rfl) ev_c) (.inr (SqT.of ha3))) ea_nil)) fun H4 e4 Q4 r4 => ?_) ea_nil
        refine ⟨_, _, rfl, ?_⟩
        rw [hmin]
        exact r4 _ (Ex.refl _)
      · obtain ⟨D, u4, u5, u6, u7, rfl, x4, t4, hal4, hys4, hD4⟩ := h
        intro D1 nD1
        have hD5 : (upd H4 D1 (.dT [])) D1 = some (.dT (dl (Mth.safeT W.F (i + 1)) (ls.take 0))) := upd_same
        refine ⟨_, rfl, al, rfl, ⟨ys, SqL.of ((Ex.new nD1) _ _ hal4)⟩, for_list (xs := ys) (fun j σ H' => ∃ u4 u7, σ = [some (.ref t), some (nV k), some (.ref al), some (.ref D), u4, some (.int (i : Int)), some (.ref D1), u7] ∧ Ex H4 H' ∧ H' D1 = some (.dT (dl (Mth.safeT W.F (i + 1)) (ls.take j))))
          ⟨u4, u7, rfl, Ex.new nD1, hD5⟩ (fun j σ H' _ h => ?_) (fun j y σ H' hj h => ?_) fun σ H' h => ?_⟩
        · obtain ⟨_, _, _, e, _⟩ := h
          exact SqL.of (e _ _ hal4)
        · obtain ⟨u4, u7, rfl, e5, hD1⟩ := h
          obtain ⟨s, hs, hsy⟩ := pget2 (paired_flip hys4) hj
          have hsm := List.mem_of_getElem? hs
          obtain ⟨s12, hin⟩ := hsl s hsm
          have hsy' : LotAt s y H' := LotAt.on e5 hsy
          have hDD := e5 _ _ hD4
          refine s_dputL (f := Mth.safeT W.F (i + 1)) (s := s) (y := y) ?_ (ev_var rfl) (ev_var rfl) hD1 hsy' nd hs hln fun H6 e6 => ?_
          · show Ev _ _ _ (.bl (Mth.safeT W.F i s && s.all fun p => Mth.safeT W.F i (Mth.left s [p])))
            refine ev_andV (ev_dget (ev_var rfl) (ev_var rfl) (dget_lot hDD hsy' hsm)) fun _ => ?_
            have hall : (s.all fun p => Mth.safeT W.F i (Mth.left s [p])) = (s.map fun p => Mth.safeT W.F i (Mth.left s [p])).all id := by
              rw [List.all_map] <;> rfl
            rw [hall]
            obtain ⟨b, rfl, hb⟩ := id hsy'
            refine ev_all (lc_mapW (as := s) (rep := nV) (ei_tup (ev_var rfl) (SqT.of hb)) V.bl (fun p => Mth.safeT W.F i (Mth.left s [p])) (by omega) (fun _ => by rfl) fun p H6 e6 hp => ?_)
            exact ev_dgetP (a := D) (ev_var rfl) (evp_left (ev_var rfl) (LotAt.on e6 hsy') (evp_one (ev_var rfl)) (by omega)) fun z H7 e7 hz => dget_lot (e7 _ _ (e6 _ _ hDD)) hz ((hmem _).mpr ((Mth.left_sub s [p]).trans ((hmem s).mp hsm)))
          · exact ⟨_, _, rfl, Ex.mut (e5.trans e6) nD1, upd_same⟩
        · obtain ⟨u4, u7, rfl, e5, hD1⟩ := h
          rw [hys4.length, List.take_length] at hD1
          exact ⟨_, rfl, D1, _, _, _, _, rfl, x4.trans (LamX.ExtN.of e5), t4.ext e5, e5 _ _ hal4, hys4.mono fun _ _ x => LotAt.on e5 x, hD1⟩
      · obtain ⟨D, u4, u5, u6, u7, rfl, x4, t4, hal4, hys4, hD4⟩ := h
        rw [Int.toNat_natCast] at hD4
        exact ⟨_, rfl, kq _ _ _ x4 t4 hD4 pm⟩
end
end Wk
end

section
set_option Elab.async false
set_option linter.all false
set_option maxRecDepth 100000
set_option maxHeartbeats 2000000
namespace Wk
open PySem PySem.Spec PyProof.Rows L2 Evl Rk
theorem passes_callL {X : Cx} {E : XK} {W : WX} (tk : Takes X W) (hW : ∀ cls d σ H, σ.length = X.N.length → E cls d H → W cls d σ H) : ∀ (pins : List (Addr × Obj)) (σ : L2.St) (H : Hp) (s : Shared) (e : Value) (s' : Shared), Inv X pins σ H s → L2.CX X.prog X.w X.stack H s E e s' → X.xe e s' :=
  fun _ σ _ _ e s' I c => tk e s' (XE.of_call I (fun cls d H' h => hW cls d σ H' I.len h) c)
theorem pss_when {X : Cx} {body : List Stmt} {p : Prop} {t : TS} (h : p → PSs X body t) : PSs X body (fun D σ H => p ∧ t D σ H) := ⟨fun pins s σ H D I ⟨hp, h'⟩ => (h hp).run pins s σ H D I h'⟩
/-- what is known of the errors -/
structure ToldX (K : PySem.W.Frag) (mg : Str → Option Value) (CK CL CN CM : Addr) : Prop where
  xL : ExcC K CL
  xN : ExcC K CN
  xM : ExcC K CM
  xf : XfC K CM
  no : PySem.W.findIn K (.ref CM) "most" = some none
  kL : PySem.W.kitOne K (.ref CL) (.ref CK) = some true
  kN : PySem.W.kitOne K (.ref CN) (.ref CK) = some true
  kM : PySem.W.kitOne K (.ref CM) (.ref CK) = some true
  gM : mg "TooMany" = some (.ref CM)
  eLL : PySem.W.exmOne K (.ref CL) (.ref CL) = some true
  eNL : PySem.W.exmOne K (.ref CN) (.ref CL) = some false
  eNN : PySem.W.exmOne K (.ref CN) (.ref CN) = some true
  eML : PySem.W.exmOne K (.ref CM) (.ref CL) = some false
  eMN : PySem.W.exmOne K (.ref CM) (.ref CN) = some false
  eMM : PySem.W.exmOne K (.ref CM) (.ref CM) = some true
section
variable {K : PySem.W.Frag} {base : Heap} {mg : Str → Option Value} {P : Program} {w : World}
abbrev tsSet (te tg : TE) : TS := tSeq (tAsg te (gName 3)) (tAsg tg (gName 4))
abbrev tsL (K : PySem.W.Frag) (CL CK a : Addr) : TS := tsSet (tTup (tCons (tC (.str "lot")) tNil)) (tCB (rIsE K CL a) (tCons (tVar 5) (tCons (tC (.ref CK)) tNil)))
abbrev tsN (K : PySem.W.Frag) (CN CK a : Addr) : TS := tsSet (tTup (tCons (tC (.str "number")) tNil)) (tCB (rIsE K CN a) (tCons (tVar 5) (tCons (tC (.ref CK)) tNil)))
abbrev tsM (K : PySem.W.Frag) (CM CK a : Addr) (cls : Value) (d : Option Addr) : TS := tsSet (tTup (tCons (tC (.str "many")) (tCons (tXf a cls d CM "most" (tVar 5)) tNil))) (tCB (Tm.rIsD K CM a d) (tCons (tVar 5) (tCons (tC (.ref CK)) tNil)))
def hsL (K : PySem.W.Frag) (CK CL CN CM : Addr) : List (Value × Nat × (Addr → Value → Option Addr → TS)) :=
  [(.ref CL, 5, fun a cls d D σ H => (cls = .ref CL ∧ d = none) ∧ tsL K CL CK a D σ H), (.ref CN, 5, fun a cls d D σ H => (cls = .ref CN ∧ d = none) ∧ tsN K CN CK a D σ H), (.ref CM, 5, fun a cls d D σ H => cls = .ref CM ∧ tsM K CM CK a cls d D σ H)]
def tryBody : List Stmt → List Stmt
  | [_, _, .Try b _ _ _ _, _] => b
  | _ => []
def hdB0 : List Stmt → List Stmt
  | [_, _, .Try _ (.ExceptHandler _ _ b _ :: _) _ _ _, _] => b
  | _ => []
def hdB1 : List Stmt → List Stmt
  | [_, _, .Try _ (_ :: .ExceptHandler _ _ b _ :: _) _ _ _, _] => b
  | _ => []
def hdB2 : List Stmt → List Stmt
  | [_, _, .Try _ (_ :: _ :: .ExceptHandler _ _ b _ :: _) _ _ _, _] => b
  | _ => []
def tBody (E : Env K mg) (Ech : XK) : TS := tIfS (tTest (tOp rIsN (tVar 1) (tC V.non)))
      (tAsg (tTup (tCons (tC (V.str "told")) (tCons (tCall (sp_lightest_safe E.CW E.CN E.CM) [] Ech (tCons (tVar 0) (tCons (tVar 2) tNil))) tNil))) (gName 3))
      (tAsg (tTup (tCons (tC (V.str "told")) (tCons (tCall (sp_is_safe E.CW E.CL E.CN E.CM) [] Ech (tCons (tVar 0) (tCons (tVar 1) (tCons (tVar 2) tNil)))) tNil))) (gName 3))
def tTry (E : Env K mg) (W : WX) : TS := fun D σ H => ∃ Ech : XK, (∀ cls d (σ' : L2.St) H', σ'.length = 6 → Ech cls d H' → W cls d σ' H') ∧ tBody E Ech D σ H
def TupIs (xs : List V) (v : V) (H : Hp) : Prop := ∃ p, v = .ref p ∧ H p = some (.tup xs)
theorem TupIs.sta {xs : List V} {v : V} {H : Hp} (h : TupIs xs v H) : Sta (TupIs xs) v H := fun H' e => by
  obtain ⟨p, h1, h2⟩ := h
  exact ⟨p, h1, e _ _ h2⟩
/-- told, with a lot or None -/
def ToldL (W : Wb) (k : Int) (v : V) (H : Hp) : Prop := ∃ p x o, v = .ref p ∧ H p = some (.tup [.str "told", x]) ∧ OptLot o x H ∧ LightR W k o
theorem ToldL.sta {W : Wb} {k : Int} {v : V} {H : Hp} (h : ToldL W k v H) : Sta (ToldL W k) v H := fun H' e => by
  obtain ⟨p, x, o, h1, h2, h3, h4⟩ := h
  exact ⟨p, x, o, h1, e _ _ h2, h3.t (Ex.t e), h4⟩
def sp__law_told (C : Addr) : Sp := fun vs H Q _ => ∃ (W : Wb) (wv lv kv : V), vs = [wv, lv, kv] ∧ WebAt C W wv H ∧ Wok W ∧ Th H kv ∧
  ((lv = .non ∧ ((isIn kv 0 12 = false ∧ Ret H (TupIs [.str "number"]) Q) ∨ (isIn kv 0 12 = true ∧ 12 < W.ps.length ∧ Ret H (TupIs [.str "many", .int 12]) Q) ∨
      ∃ k c cs, kv = .int k ∧ 0 ≤ k ∧ k ≤ 12 ∧ W.ps.length ≤ 12 ∧ Mth.harmsL W.F (List.range W.ps.length) = c :: cs ∧ Ret H (ToldL W k) Q)) ∨
   (lv ≠ .non ∧ ((LotB H lv (W.ps.length : Int) false ∧ Ret H (TupIs [.str "lot"]) Q) ∨ ∃ l, LotAt l lv H ∧ LotOk W l ∧
      ((isIn kv 0 12 = false ∧ Ret H (TupIs [.str "number"]) Q) ∨ (isIn kv 0 12 = true ∧ 12 < l.length ∧ Ret H (TupIs [.str "many", .int 12]) Q) ∨
        ∃ k c cs, kv = .int k ∧ 0 ≤ k ∧ k ≤ 12 ∧ l.length ≤ 12 ∧ Mth.harmsL W.F l = c :: cs ∧ Ret H (TupIs [.str "told", .bl (decide (k ≤ (c.length : Int) - 1))]) Q))))
theorem len6 : ∀ {σ : L2.St}, σ.length = 6 → ∃ a0 a1 a2 a3 a4 a5, σ = [a0, a1, a2, a3, a4, a5]
  | [a0, a1, a2, a3, a4, a5], _ => ⟨a0, a1, a2, a3, a4, a5, rfl⟩
/-- what the try's body may let out -/
def ToldE (CL CN CM : Addr) (H : Hp) (Q : VK) : XK := fun cls d H' => Ex H H' ∧ ((cls = .ref CL ∧ d = none ∧ Ret H (TupIs [.str "lot"]) Q) ∨ (cls = .ref CN ∧ d = none ∧ Ret H (TupIs [.str "number"]) Q) ∨
  (cls = .ref CM ∧ ∃ dd, d = some dd ∧ H dd = none ∧ H' dd = some (.xd [(("most" : Str), .int 12)]) ∧ Ret H (TupIs [.str "many", .int 12]) Q))
theorem ok__law_told (E : Env K mg) (TM : Tm.Txt P K mg E.CM E.fM) (TX : ToldX K mg E.CK E.CL E.CN E.CM) : FnOk P w K mg base CX0 13 E.d__law_told.f E.d__law_told.fd ["_law_web_here", "_law_lot_here", "_law_k"] (sp__law_told E.CW) := by
  refine E.d__law_told.F.ok sc__law_told (fun vs H Q E h => ?_) (fun cdv A outer s H vs Q E' hr h => ?_)
  · obtain ⟨W, wv, lv, kv, rfl, _⟩ := h
    rfl
  · have hB : ∀ (W : WX) (pn : List (Addr × Obj)) (xe : Value → Shared → Prop) (Ech : XK), Takes ((cxOf CX0 P w K mg base n__law_told "_law_told" (defScope s__law_told) E.d__law_told.f cdv A outer s H E').nox.tr pn xe) W → (∀ cls d (σ : L2.St) H, σ.length = 6 → Ech cls d H → W cls d σ H) → PSs ((cxOf CX0 P w K mg base n__law_told "_law_told" (defScope s__law_told) E.d__law_told.f cdv A outer s H E').nox.tr pn xe) (tryBody (defBody s__law_told)) (tBody E Ech) := fun W pn xe Ech tk hW => (pss_one (ps_if (pt_cmpR op_isN1 (pv 1) pe_non (nomark _)) (pss_one (ps_set (i := 3) sc__law_told.nd rfl (by first | exact Or.inl rfl | exact Or.inr rfl) (pe_tup (pa_cons pe_str (pa_cons (pe_call (ok_lightest_safe E TM) (hr.mono (by decide)) rfl E.d_lightest_safe.g E.d_lightest_safe.F.kp E.d_lightest_safe.b .nil (E := Ech) (passes_callL tk hW) (pa_cons (pv 0) (pa_cons (pv 2) pa_nil))) pa_nil))))) (pss_one (ps_set (i := 3) sc__law_told.nd rfl (by first | exact Or.inl rfl | exact Or.inr rfl) (pe_tup (pa_cons pe_str (pa_cons (pe_call (ok_is_safe E TM) (hr.mono (by decide)) rfl E.d_is_safe.g E.d_is_safe.F.kp E.d_is_safe.b .nil (E := Ech) (passes_callL tk hW) (pa_cons (pv 0) (pa_cons (pv 1) (pa_cons (pv 2) pa_nil)))) pa_nil)))))))
    have h0 : ∀ (a : Addr) (oe : Obj) (pn : List (Addr × Obj)), Zc (.ref E.CL) none oe → (∃ vs, oe.data = .fields vs) → PSs ((cxOf CX0 P w K mg base n__law_told "_law_told" (defScope s__law_told) E.d__law_told.f cdv A outer s H E').nox.suite a ((a, oe) :: pn)) (hdB0 (defBody s__law_told)) (tsL K E.CL E.CK a) := fun a oe pn hz hf => (pss_cons (ps_set (i := 3) sc__law_told.nd rfl (by first | exact Or.inl rfl | exact Or.inr rfl) (pe_tup (pa_cons pe_str pa_nil))) (pss_one (ps_set (i := 4) sc__law_told.nd rfl (by first | exact Or.inl rfl | exact Or.inr rfl) (pe_callB (call_isE TX.xL hz hf) (by rfl) E.f_isinstance (by decide +kernel) (pa_cons (pv 5) (pa_cons (pe_glob (v := .ref E.CK) rfl E.e_KeepError.g rfl) pa_nil))))))
    have h1 : ∀ (a : Addr) (oe : Obj) (pn : List (Addr × Obj)), Zc (.ref E.CN) none oe → (∃ vs, oe.data = .fields vs) → PSs ((cxOf CX0 P w K mg base n__law_told "_law_told" (defScope s__law_told) E.d__law_told.f cdv A outer s H E').nox.suite a ((a, oe) :: pn)) (hdB1 (defBody s__law_told)) (tsN K E.CN E.CK a) := fun a oe pn hz hf => (pss_cons (ps_set (i := 3) sc__law_told.nd rfl (by first | exact Or.inl rfl | exact Or.inr rfl) (pe_tup (pa_cons pe_str pa_nil))) (pss_one (ps_set (i := 4) sc__law_told.nd rfl (by first | exact Or.inl rfl | exact Or.inr rfl) (pe_callB (call_isE TX.xN hz hf) (by rfl) E.f_isinstance (by decide +kernel) (pa_cons (pv 5) (pa_cons (pe_glob (v := .ref E.CK) rfl E.e_KeepError.g rfl) pa_nil))))))
    have h2 : ∀ (a : Addr) (oe : Obj) (cls : Value) (d : Option Addr) (pn : List (Addr × Obj)), cls = .ref E.CM → Zc cls d oe → (∃ vs, oe.data = .fields vs) → PSs ((cxOf CX0 P w K mg base n__law_told "_law_told" (defScope s__law_told) E.d__law_told.f cdv A outer s H E').nox.suite a ((a, oe) :: pn)) (hdB2 (defBody s__law_told)) (tsM K E.CM E.CK a cls d) := fun a oe cls d pn hc hz hf => (pss_cons (ps_set (i := 3) sc__law_told.nd rfl (by first | exact Or.inl rfl | exact Or.inr rfl) (pe_tup (pa_cons pe_str (pa_cons (pe_xf TX.xf TX.no hz hf (pv 5)) pa_nil)))) (pss_one (ps_set (i := 4) sc__law_told.nd rfl (by first | exact Or.inl rfl | exact Or.inr rfl) (pe_callB (Tm.call_isD hc TX.xM hz hf) (by rfl) E.f_isinstance (by decide +kernel) (pa_cons (pv 5) (pa_cons (pe_glob (v := .ref E.CK) rfl E.e_KeepError.g rfl) pa_nil))))))
    refine ⟨_, PSs.nox (pss_cons (ps_set (i := 3) sc__law_told.nd rfl (by first | exact Or.inl rfl | exact Or.inr rfl) pe_non) (pss_cons (ps_set (i := 4) sc__law_told.nd rfl (by first | exact Or.inl rfl | exact Or.inr rfl) pe_bl) (pss_cons (Tm.ps_try_manyAs (tb := tTry E) (Wout := fun _ _ _ _ => False) (l := hsL K E.CK E.CL E.CN E.CM) rfl rfl sc__law_told.nd LamX.takes0 (fun W pn xe tk hp => ⟨fun pins s σ H D I h => by obtain ⟨Ech, hW, h⟩ := h; exact (hB W pn xe Ech tk hW).run pins s σ H D I h⟩) (.cons ⟨rfl, by decide, .inl E.e_NoLot.g⟩ rfl rfl (fun a oe cls d pn hz hf => pss_when (fun ⟨h1', h2'⟩ => by subst h1'; subst h2'; exact h0 a oe pn hz hf)) (.cons ⟨rfl, by decide, .inl E.e_NoNumber.g⟩ rfl rfl (fun a oe cls d pn hz hf => pss_when (fun ⟨h1', h2'⟩ => by subst h1'; subst h2'; exact h1 a oe pn hz hf)) (.cons ⟨rfl, by decide, .inl TX.gM⟩ rfl rfl (fun a oe cls d pn hz hf => pss_when (fun h1' => h2 a oe cls d pn h1' hz hf)) .nil)))) (pss_one (ps_ret (pe_ifExp (pt_val (pv 4)) (pv 3) pe_non)))))), ?_⟩
    obtain ⟨W, wv, lv, kv, rfl, hw, ok, hk, h⟩ := h
    refine ⟨ToldE E.CL E.CN E.CM H Q, fun cls d σ' H' hl hE => ?_, ?_⟩
    · obtain ⟨a0, a1, a2, a3, a4, a5, rfl⟩ := len6 hl
      obtain ⟨e1, hE⟩ := hE
      rcases hE with ⟨rfl, rfl, k⟩ | ⟨rfl, rfl, k⟩ | ⟨rfl, dd, rfl, hd, hd', k⟩
      · refine ⟨true, TX.eLL, fun _ a na => ⟨⟨rfl, rfl⟩, ?_⟩, fun z => nomatch z⟩
        refine ⟨by show 1 ≤ sizeLine; decide, fun p np => ⟨_, rfl, ⟨.ref E.CK, .ref E.CK, true, rfl, fun u hu => hu, TX.kL, ?_⟩⟩⟩
        exact ⟨_, rfl, _, rfl, _, rfl, k _ _ (e1.trans (Ex.new np)) (TupIs.sta ⟨p, rfl, upd_same⟩)⟩
      · refine ⟨false, TX.eNL, (fun z => absurd z (by decide)), fun _ => ⟨true, TX.eNN, fun _ a na => ⟨⟨rfl, rfl⟩, ?_⟩, fun z => nomatch z⟩⟩
        refine ⟨by show 1 ≤ sizeLine; decide, fun p np => ⟨_, rfl, ⟨.ref E.CK, .ref E.CK, true, rfl, fun u hu => hu, TX.kN, ?_⟩⟩⟩
        exact ⟨_, rfl, _, rfl, _, rfl, k _ _ (e1.trans (Ex.new np)) (TupIs.sta ⟨p, rfl, upd_same⟩)⟩
      · refine ⟨false, TX.eML, (fun z => absurd z (by decide)), fun _ => ⟨false, TX.eMN, (fun z => absurd z (by decide)), fun _ => ⟨true, TX.eMM, fun _ a na => ⟨rfl, ?_⟩, fun z => nomatch z⟩⟩⟩
        refine ⟨_, rfl, rfl, rfl, dd, _, _, rfl, hd', by first | rfl | simp [List.lookup], ?_⟩
        refine ⟨by show 2 ≤ sizeLine; decide, fun p np => ⟨_, rfl, ⟨.ref E.CK, .ref E.CK, true, dd, _, rfl, fun u hu => hu, TX.kM, rfl, (Ex.new np) _ _ hd', ?_⟩⟩⟩
        exact ⟨_, rfl, _, rfl, _, rfl, k _ _ (e1.trans (Ex.new np)) (TupIs.sta ⟨p, rfl, upd_same⟩)⟩
    · refine ⟨_, rfl, rfl, decide (lv = .non), rfl, ?_⟩
      rcases h with ⟨rfl, h⟩ | ⟨hn, h⟩
      · rw [decide_eq_true rfl]
        refine ⟨_, rfl, _, rfl, W, wv, kv, rfl, hw, ok, hk, ?_⟩
        rcases h with ⟨h1, h2⟩ | ⟨h1, h2, h3⟩ | ⟨k, c, cs, rfl, k0, k1, n12, hc, kk⟩
        · exact .inl ⟨h1, fun H' e => ⟨e, .inr (.inl ⟨rfl, rfl, h2⟩)⟩⟩
        · exact .inr (.inl ⟨h1, h2, fun H' d e hd hd' => ⟨e, .inr (.inr ⟨rfl, d, rfl, hd, hd', h3⟩)⟩⟩)
        · refine .inr (.inr ⟨k, c, cs, rfl, k0, k1, n12, hc, fun x H1 e1 px => ?_⟩)
          refine ⟨by show 2 ≤ sizeLine; decide, fun p np => ?_⟩
          exact ⟨_, rfl, true, rfl, _, rfl, kk _ _ (e1.trans (Ex.new np)) (ToldL.sta (let ⟨o, h1, h2⟩ := px.now; ⟨p, x, o, rfl, upd_same, h1.t (Ex.t (Ex.new np)), h2⟩))⟩
      · rw [decide_eq_false hn]
        refine ⟨_, rfl, _, rfl, _, rfl, W, wv, lv, kv, rfl, hw, ok, hk, ?_⟩
        rcases h with ⟨h1, h2⟩ | ⟨l, hl, hlo, h⟩
        · exact .inl ⟨h1, fun H' e => ⟨e, .inl ⟨rfl, rfl, h2⟩⟩⟩
        · refine .inr ⟨l, hl, hlo, ?_⟩
          rcases h with ⟨h1, h2⟩ | ⟨h1, h2, h3⟩ | ⟨k, c, cs, rfl, k0, k1, n12, hc, kk⟩
          · exact .inl ⟨h1, fun H' e => ⟨e, .inr (.inl ⟨rfl, rfl, h2⟩)⟩⟩
          · exact .inr (.inl ⟨h1, h2, fun H' d e hd hd' => ⟨e, .inr (.inr ⟨rfl, d, rfl, hd, hd', h3⟩)⟩⟩)
          · refine .inr (.inr ⟨k, c, cs, rfl, k0, k1, n12, hc, fun x H1 e1 px => ?_⟩)
            refine ⟨by show 2 ≤ sizeLine; decide, fun p np => ?_⟩
            refine ⟨_, rfl, true, rfl, _, rfl, kk _ _ (e1.trans (Ex.new np)) (TupIs.sta ⟨p, rfl, ?_⟩)⟩
            rw [upd_same, px.now]
end
end Wk
end

section
set_option Elab.async false
set_option linter.all false
set_option maxRecDepth 100000
set_option maxHeartbeats 2000000
namespace Wk
open PySem PySem.Spec PyProof.Rows L2 Evl Rk
/-! ### webs span what they span -/
theorem Wb.F_nil {W : Wb} (ok : Wok W) : W.F [] = false := by
  cases h : W.F [] with
  | false => rfl
  | true =>
    have f := (W.F_iff []).mp h (fun _ => 1)
    exfalso
    have key : ∀ v : Nat → Int, Mth.Sp W.p W.n (W.rows []) v → W.p ∣ v 0 := by
      intro v hv
      cases hv with
      | zero _ h => exact h 0 ok.n1
      | add v _ r c _ hr _ => exact absurd hr (by simp [Wb.rows])
    have q := key _ f
    have p2 := ok.p2
    have := Int.le_of_dvd (by decide) q
    omega
theorem Wb.F_mono (W : Wb) : Mth.Mono W.F := fun s t h hs => (W.F_iff t).mpr (((W.F_iff s).mp hs).mono fun r hr => by
  obtain ⟨i, hi, rfl⟩ := List.mem_map.mp hr
  exact List.mem_map.mpr ⟨i, h i hi, rfl⟩)
/-- a large web of one kind of piece -/
def WL (m : Nat) : Wb := ⟨2, 1, List.replicate m ([1], 4)⟩
theorem WL_len (m : Nat) : (WL m).ps.length = m := List.length_replicate
theorem WL_ok {m : Nat} (h : m ≤ 40) : Wok (WL m) := by
  refine ⟨by show (2 : Int) ≤ 2; decide, by show (2 : Int) ≤ 251; decide, fun o h1 h2 => ?_, fun x h1 h2 => ⟨1, by decide, by show (1 : Int) < 2; decide, ?_⟩, by show 1 ≤ 1; decide, by show 1 ≤ 10; decide, by rw [WL_len]; exact h, fun q hq => ?_⟩
  · have : (WL m).p = 2 := rfl
    omega
  · have e : (WL m).p = 2 := rfl
    have : x = 1 := by omega
    subst this
    rfl
  · have : q = ([1], 4) := List.eq_of_mem_replicate hq
    subst this
    exact ⟨⟨rfl, fun x hx => by rw [List.mem_singleton.mp hx]; show (0 : Int) ≤ 1 ∧ (1 : Int) < 2; decide⟩, ⟨1, List.mem_singleton.mpr rfl, by decide⟩, by decide, by decide⟩
theorem WL_pc {m i : Nat} (h : i < m) : (WL m).pc i = ([1], 4) := by
  unfold Wb.pc WL
  simp [h]
theorem WL_F {m i : Nat} {s : List Nat} (hi : i < m) (hs : i ∈ s) : (WL m).F s = true := by
  refine ((WL m).F_iff s).mpr fun v => ?_
  refine Mth.Sp.add (fun _ => 0) v [1] (v 0) (Mth.Sp.zero _ fun i _ => Int.dvd_zero _) (List.mem_map.mpr ⟨i, hs, by rw [WL_pc hi]⟩) fun j hj => ?_
  have e : (WL m).n = 1 := rfl
  have : j = 0 := by omega
  subst this
  show (2 : Int) ∣ v 0 - 0 - v 0 * 1
  omega
theorem WL_harm {m : Nat} {l c : List Nat} {cs : List (List Nat)} (hin : ∀ i, i ∈ l → i < m) (hn : l.Nodup) (h : Mth.harmsL (WL m).F l = c :: cs) : c.length = l.length := by
  have hc : c ∈ Mth.harmsL (WL m).F l := by
    rw [h]
    exact List.mem_cons_self
  obtain ⟨h1, h2⟩ := Mth.harms_bad hc
  have h3 := h2.length_le
  have h4 : l.length ≤ c.length := Mth.nodup_le hn fun x hx => by
    by_cases z : x ∈ c
    · exact z
    · have : x ∈ Mth.left l c := by
        unfold Mth.left
        exact List.mem_filter.mpr ⟨hx, by simp [z]⟩
      rw [WL_F (hin x hx) this] at h1
      cases h1
  omega
/-! ### behind a draw -/
theorem WebAt.deck {C : Addr} {W : Wb} {v : V} {d sc : Addr} {H H' : Hp} (dk : DeckAt d sc H) (e : Ex (rm H d) H') (h : WebAt C W v H) : WebAt C W v H' := by
  obtain ⟨x, dx, a, h1, h2, h3⟩ := h
  refine ⟨x, dx, a, h1, dkeep e h2 fun z => ?_, h3.t (dk.t e)⟩
  obtain ⟨_, _, _, _, _, q, _⟩ := dk
  rw [z, q] at h2
  cases h2
section
variable {K : PySem.W.Frag} {base : Heap} {mg : Str → Option Value} {P : Program} {w : World}
/-- one of a display, drawn -/
theorem pick {ta : TA} {σ : L2.St} {H : Hp} {m i : Nat} {Pp : V → Hp → Prop} {d sc : Addr} {E : XK} {Q : VK} (dk : DeckAt d sc H) (h : EaH ta σ H m Pp) (hm : m ≤ 1000) (h0 : 0 < m) (hi : σ[i]? = some (some (.ref d)))
    (hs : ∀ v H H', DeckAt d sc H → DeckAt d sc H' → Ex (rm H d) H' → Pp v H → Pp v H')
    (q : ∀ v H2, DeckAt d sc H2 → Ex (rm H d) H2 → Pp v H2 → Q v H2) : tOp (rIxL K) (tLst ta) (tCall sp__law_draw [] E (tCons (tVar i) (tCons (tC (.int (m : Int))) tNil))) σ H Q :=
  h H (Ex.refl H) _ fun vs H1 e1 hl hv => ⟨by rw [hl]; exact Nat.le_trans hm (by decide), fun p np => by
    have nd := (dk.on e1).ne np
    have eN : Ex H (upd H1 p (.lst vs)) := e1.trans (Ex.new np)
    have dkN : DeckAt d sc (upd H1 p (.lst vs)) := (dk.on e1).on (Ex.new np)
    refine ⟨_, hi, d, sc, (m : Int), rfl, dkN, by omega, by omega, fun x H2 e2 dk2 x0 x1 => ?_⟩
    obtain ⟨j, rfl⟩ : ∃ j : Nat, x = (j : Int) := ⟨x.toNat, by omega⟩
    have hx : j < vs.length := by
      rw [hl]
      omega
    refine ⟨p, vs, (j : Int), vs[j], rfl, rfl, SqL.of (dkeep e2 upd_same nd.1), atI_nat (List.getElem?_eq_getElem hx), ?_⟩
    exact q _ H2 dk2 (dtr (rm_ex.trans eN) e2) (hs _ _ _ dkN dk2 e2 ((hv _ (List.getElem_mem hx)).on (Ex.new np)).now)⟩
theorem ev_same {σ : L2.St} {H : Hp} {tc tt : TE} {xs : List V} {ds : List PyData} (hc : EvP tc σ H (TupIs xs)) (ht : EvP tt σ H (TupIs xs)) (hd : ∀ H, DpAll K H xs ds) (sh : SeqAt.shaped (.tuple ds) = true) (he : PyData.eqv (.tuple ds) (.tuple ds) = true) : Ev (tOp (rNeD K) tc tt) σ H (.bl false) := fun H1 e1 Q q => hc H1 e1 _ fun v H2 e2 pv => ht H2 (e1.trans e2) _ fun u H3 e3 pu => by
  obtain ⟨p, rfl, hp⟩ := (pv.on e3).now
  obtain ⟨r, rfl, hr⟩ := pu.now
  refine ⟨.tuple ds, .tuple ds, .tup (SqT.of hp) (hd _), .tup (SqT.of hr) (hd _), sh, sh, ?_⟩
  rw [he]
  exact q _ (e2.trans e3)
theorem ev_sameE {σ : L2.St} {H : Hp} {tc tt : TE} {xs : List V} {ds : List PyData} (hc : EvP tc σ H (TupIs xs)) (ht : EvP tt σ H (TupIs xs)) (hd : ∀ H, DpAll K H xs ds) (sh : SeqAt.shaped (.tuple ds) = true) (he : PyData.eqv (.tuple ds) (.tuple ds) = true) : Ev (tOp (rEqD K) tc tt) σ H (.bl true) := fun H1 e1 Q q => hc H1 e1 _ fun v H2 e2 pv => ht H2 (e1.trans e2) _ fun u H3 e3 pu => by
  obtain ⟨p, rfl, hp⟩ := (pv.on e3).now
  obtain ⟨r, rfl, hr⟩ := pu.now
  refine ⟨.tuple ds, .tuple ds, .tup (SqT.of hp) (hd _), .tup (SqT.of hr) (hd _), sh, sh, ?_⟩
  rw [he]
  exact q _ (e2.trans e3)
theorem evp_tupC {σ : L2.St} {H : Hp} {ta : TA} {xs : List V} (h : EvA ta σ H xs) (hl : xs.length ≤ 100000) : EvP (tTup ta) σ H (TupIs xs) := fun H1 e1 Q r => eu_tup h hl H1 e1 Q fun p H2 np e2 hp => r _ _ e2 (TupIs.sta ⟨p, rfl, hp⟩)
theorem evp_call3 {σ : L2.St} {H : Hp} {sp : Sp} {E : XK} {t1 t2 t3 : TE} {a b : V} {Pl P' : V → Hp → Prop} (h1 : Ev t1 σ H a) (h2 : EvP t2 σ H Pl) (h3 : Ev t3 σ H b) (hs : ∀ lv H1, Ex H H1 → Sta Pl lv H1 → ∀ Q, Ret H1 P' Q → sp [a, lv, b] H1 Q E) : EvP (tCall sp [] E (tCons t1 (tCons t2 (tCons t3 tNil)))) σ H P' :=
  fun H1 e1 Q r => h1 H1 e1 _ fun H2 e2 => h2 H2 (e1.trans e2) _ fun lv H3 e3 pl => h3 H3 ((e1.trans e2).trans e3) _ fun H4 e4 => hs lv H4 (((e1.trans e2).trans e3).trans e4) (pl.on e4) Q (r.back ((e2.trans e3).trans e4))
/-- the tuples told -/
theorem dp_s (s : Str) : ∀ H, DpAll K H [.str s] [.str s] := fun H => .cons (.str s) .nil
theorem dp_si (s : Str) (i : Int) : ∀ H, DpAll K H [.str s, .int i] [.str s, .int i] := fun H => .cons (.str s) (.cons (.int i) .nil)
theorem dp_sb (s : Str) (b : Bool) : ∀ H, DpAll K H [.str s, .bl b] [.str s, .bool b] := fun H => .cons (.str s) (.cons (.bl b) .nil)
theorem q1 : PyData.eqv (.tuple [.str "number"]) (.tuple [.str "number"]) = true := by decide +kernel
theorem q2 : PyData.eqv (.tuple [.str "many", .int 12]) (.tuple [.str "many", .int 12]) = true := by decide +kernel
theorem q3 : PyData.eqv (.tuple [.str "lot"]) (.tuple [.str "lot"]) = true := by decide +kernel
theorem q4 (b : Bool) : PyData.eqv (.tuple [.str "told", .bool b]) (.tuple [.str "told", .bool b]) = true := by cases b <;> decide +kernel
theorem z1 : SeqAt.shaped (.tuple [.str "number"]) = true := by decide +kernel
theorem z2 : SeqAt.shaped (.tuple [.str "many", .int 12]) = true := by decide +kernel
theorem z3 : SeqAt.shaped (.tuple [.str "lot"]) = true := by decide +kernel
theorem z4 (b : Bool) : SeqAt.shaped (.tuple [.str "told", .bool b]) = true := by cases b <;> decide +kernel
end
end Wk
end

section
set_option Elab.async false
set_option linter.all false
set_option maxRecDepth 100000
set_option maxHeartbeats 2000000
namespace Wk
open PySem PySem.Spec PyProof.Rows L2 Evl Rk
section
variable {K : PySem.W.Frag} {base : Heap} {mg : Str → Option Value} {P : Program} {w : World}
theorem q_asgR {te : TE} {i : Nat} {tz : TS} {D : Ends} {σ : L2.St} {H : Hp} (h : te σ H (fun v H1 => tz D (σ.set i (some v)) H1)) : tSeq (tAsg te (gName i)) tz D σ H := h
/-- no k -/
def OddK (v : V) (H : Hp) : Prop := Th H v ∧ isIn v 0 12 = false
theorem okv {σ : L2.St} {H : Hp} {te : TE} {v : V} (h : Ev te σ H v) (ht : ∀ H', Th H' v) (hi : isIn v 0 12 = false) : EvP te σ H OddK := evp_of h fun H' _ => ⟨ht H', hi⟩
section
variable {σ : L2.St} {H : Hp} {C : Addr} {E0' : XK} {t1 t2 t3 : TE} {W : Wb} {mv kv : V} {l : List Nat} {k : Int}
theorem told_numN (h1 : Ev t1 σ H mv) (h3 : Ev t3 σ H kv) (hw : WebAt C W mv H) (ok : Wok W) (th : Th H kv) (hi : isIn kv 0 12 = false) : EvP (tCall (sp__law_told C) [] E0' (tCons t1 (tCons (tC .non) (tCons t3 tNil)))) σ H (TupIs [.str "number"]) :=
  evp_call3 h1 (evp ev_c) h3 fun lv H1 e1 pl Q r => ⟨W, mv, lv, kv, rfl, hw.on e1, ok, th.on e1, .inl ⟨pl.now, .inl ⟨hi, r⟩⟩⟩
theorem told_manyN (h1 : Ev t1 σ H mv) (h3 : Ev t3 σ H (.int k)) (hw : WebAt C W mv H) (ok : Wok W) (k0 : 0 ≤ k) (k1 : k ≤ 12) (hn : 12 < W.ps.length) : EvP (tCall (sp__law_told C) [] E0' (tCons t1 (tCons (tC .non) (tCons t3 tNil)))) σ H (TupIs [.str "many", .int 12]) :=
  evp_call3 h1 (evp ev_c) h3 fun lv H1 e1 pl Q r => ⟨W, mv, lv, .int k, rfl, hw.on e1, ok, .int _, .inl ⟨pl.now, .inr (.inl ⟨by show (decide (0 ≤ k) && decide (k ≤ 12)) = true; rw [decide_eq_true k0, decide_eq_true k1] <;> rfl, hn, r⟩)⟩⟩
theorem lot_ne {l : List Nat} {v : V} {H : Hp} (h : LotAt l v H) : v ≠ .non := fun z => by
  obtain ⟨t, e, _⟩ := h
  rw [z] at e
  cases e
theorem told_numL (h1 : Ev t1 σ H mv) (h2 : EvP t2 σ H (LotAt l)) (h3 : Ev t3 σ H kv) (hw : WebAt C W mv H) (ok : Wok W) (lo : LotOk W l) (th : Th H kv) (hi : isIn kv 0 12 = false) : EvP (tCall (sp__law_told C) [] E0' (tCons t1 (tCons t2 (tCons t3 tNil)))) σ H (TupIs [.str "number"]) :=
  evp_call3 h1 h2 h3 fun lv H1 e1 pl Q r => ⟨W, mv, lv, kv, rfl, hw.on e1, ok, th.on e1, .inr ⟨lot_ne pl.now, .inr ⟨l, pl.now, lo, .inl ⟨hi, r⟩⟩⟩⟩
theorem told_manyL (h1 : Ev t1 σ H mv) (h2 : EvP t2 σ H (LotAt l)) (h3 : Ev t3 σ H (.int k)) (hw : WebAt C W mv H) (ok : Wok W) (lo : LotOk W l) (k0 : 0 ≤ k) (k1 : k ≤ 12) (hn : 12 < l.length) : EvP (tCall (sp__law_told C) [] E0' (tCons t1 (tCons t2 (tCons t3 tNil)))) σ H (TupIs [.str "many", .int 12]) :=
  evp_call3 h1 h2 h3 fun lv H1 e1 pl Q r => ⟨W, mv, lv, .int k, rfl, hw.on e1, ok, .int _, .inr ⟨lot_ne pl.now, .inr ⟨l, pl.now, lo, .inr (.inl ⟨by show (decide (0 ≤ k) && decide (k ≤ 12)) = true; rw [decide_eq_true k0, decide_eq_true k1] <;> rfl, hn, r⟩)⟩⟩⟩
theorem told_boolL {c : List Nat} {cs : List (List Nat)} {b : Bool} (h1 : Ev t1 σ H mv) (h2 : EvP t2 σ H (LotAt l)) (h3 : Ev t3 σ H (.int k)) (hw : WebAt C W mv H) (ok : Wok W) (lo : LotOk W l) (k0 : 0 ≤ k) (k1 : k ≤ 12) (hn : l.length ≤ 12) (hc : Mth.harmsL W.F l = c :: cs) (hb : decide (k ≤ (c.length : Int) - 1) = b) : EvP (tCall (sp__law_told C) [] E0' (tCons t1 (tCons t2 (tCons t3 tNil)))) σ H (TupIs [.str "told", .bl b]) :=
  evp_call3 h1 h2 h3 fun lv H1 e1 pl Q r => ⟨W, mv, lv, .int k, rfl, hw.on e1, ok, .int _, .inr ⟨lot_ne pl.now, .inr ⟨l, pl.now, lo, .inr (.inr ⟨k, c, cs, rfl, k0, k1, hn, hc, by rw [hb]; exact r⟩)⟩⟩⟩
end
/-! ### tests that come out false, draws in them -/
section
variable {d sc : Addr} {σ : L2.St} {H : Hp} {ta tb : TT}
def FalseD (d sc : Addr) (t : TT) (σ : L2.St) (H : Hp) : Prop := ∀ Q : Bool → Hp → Prop, (∀ H', DeckAt d sc H' → Ex (rm H d) H' → Q false H') → t σ H Q
theorem fd_of (h : EvT ta σ H false) (dk : DeckAt d sc H) : FalseD d sc ta σ H := fun Q q => h H (Ex.refl _) _ fun H2 e2 => q H2 (dk.on e2) (rm_ex.trans e2)
theorem fd_or (h1 : FalseD d sc ta σ H) (h2 : ∀ H1, DeckAt d sc H1 → Ex (rm H d) H1 → FalseD d sc tb σ H1) : FalseD d sc (tOr ta tb) σ H := fun Q q => h1 _ fun H1 a b => h2 H1 a b Q fun H2 a2 b2 => q H2 a2 (dtr b b2)
theorem fd_and1 (h1 : FalseD d sc ta σ H) : FalseD d sc (tAnd ta tb) σ H := fun Q q => h1 _ fun H1 a b => q H1 a b
theorem fd_and2 (h1 : EvT ta σ H true) (dk : DeckAt d sc H) (h2 : ∀ H1, DeckAt d sc H1 → Ex H H1 → FalseD d sc tb σ H1) : FalseD d sc (tAnd ta tb) σ H := fun Q q => h1 H (Ex.refl _) _ fun H1 e1 => h2 H1 (dk.on e1) e1 Q fun H2 a2 b2 => q H2 a2 (dtr (rm_ex.trans e1) b2)
theorem q_whenD {tc : TT} {tu tz : TS} {D : Ends} (h : FalseD d sc tc σ H) (k : ∀ H', DeckAt d sc H' → Ex (rm H d) H' → tz D σ H') : tSeq (tIfS tc tu tNext) tz D σ H := h _ fun H' a b => by
  rw [if_neg (by decide)]
  exact k H' a b
theorem ne_end {tt : TE} {v : V} {xs : List V} {ds : List PyData} {Q : VK} (pv : Sta (TupIs xs) v H) (ht : EvP tt σ H (TupIs xs)) (hd : ∀ H, DpAll K H xs ds) (sh : SeqAt.shaped (.tuple ds) = true) (he : PyData.eqv (.tuple ds) (.tuple ds) = true) (q : ∀ H1, Ex H H1 → Q (.bl false) H1) : tt σ H fun u H3 => rNeD K v u H3 Q := ht H (Ex.refl _) _ fun u H3 e3 pu => by
  obtain ⟨p, rfl, hp⟩ := (pv.on e3).now
  obtain ⟨r, rfl, hr⟩ := pu.now
  refine ⟨.tuple ds, .tuple ds, .tup (SqT.of hp) (hd _), .tup (SqT.of hr) (hd _), sh, sh, ?_⟩
  rw [he]
  exact q _ e3
end
theorem evp_slA {σ : L2.St} {H : Hp} {te : TE} {tl th : TO} {l l' : List Nat} {v : V} {lo hi : Option Int} (h : Ev te σ H v) (hl : LotAt l v H) (h1 : EvO tl σ H lo) (h2 : EvO th σ H hi) (hc : cutV (l.map nV) lo hi = l'.map nV) : EvP (tSl (rSlA K) te tl th) σ H (LotAt l') := fun H1 e Q r =>
  h H1 e _ fun H2 e2 => h1 H2 (e.trans e2) _ fun H3 e3 => h2 H3 ((e.trans e2).trans e3) _ fun H4 e4 => by
    obtain ⟨a, rfl, ha⟩ := LotAt.on (((e.trans e2).trans e3).trans e4) hl
    have e24 := (e2.trans e3).trans e4
    refine ⟨a, l.map nV, rfl, SqT.of ha, fun hw => r _ _ e24 (LotAt.sta ⟨a, rfl, ?_⟩), fun hw p hp => r _ _ (e24.trans (Ex.new hp)) (LotAt.sta ⟨p, rfl, ?_⟩)⟩
    · rw [← hc]
      unfold cutV
      rw [hw.1, hw.2, List.drop_zero, Nat.sub_zero, List.take_length]
      exact ha
    · rw [upd_same, hc]
theorem paired_rep {α β : Type} {F : α → β → Prop} {a : α} {b : β} (h : F a b) : ∀ m, Paired F (List.replicate m a) (List.replicate m b)
  | 0 => .nil
  | m + 1 => .cons h (paired_rep h m)
def sp__law_is_refused (C : Addr) : Sp := fun vs H Q _ => ∃ (d sc : Addr) (W : Wb) (made : V), vs = [.ref d, made, nV W.ps.length] ∧ DeckAt d sc H ∧ WebAt C W made H ∧ Wok W ∧ ∀ H', Q (.bl true) H'
theorem ok__law_is_refused (E : Env K mg) (TM : Tm.Txt P K mg E.CM E.fM) (TX : ToldX K mg E.CK E.CL E.CN E.CM) : FnOk P w K mg base CX0 14 E.d__law_is_refused.f E.d__law_is_refused.fd ["_law_deck_here", "_law_made", "_law_many"] (sp__law_is_refused E.CW) := by
  refine E.d__law_is_refused.F.ok sc__law_is_refused (fun vs H Q E h => ?_) (fun cdv A outer s H vs Q E' hr h => ?_)
  · obtain ⟨d, sc, W, made, rfl, _⟩ := h
    rfl
  · obtain ⟨d, sc, W, made, rfl, dk, hw, ok, k⟩ := h
    refine ⟨_, PSs.nox (pss_cons (ps_set (i := 3) sc__law_is_refused.nd rfl (by first | exact Or.inl rfl | exact Or.inr rfl) (pe_ix ix_list (pe_lst (pa_cons pe_int (pa_cons (pe_un un_neg pe_int) (pa_cons pe_bl (pa_cons pe_non (pa_cons pe_str (pa_cons (pe_op op_pow pe_int pe_int) (pa_cons (pe_tup (pa_cons pe_int pa_nil)) (pa_cons pe_bl pa_nil))))))))) (pe_call (ok__law_draw E) (hr.mono (by decide)) rfl E.d__law_draw.g E.d__law_draw.F.kp E.d__law_draw.b .nil pass0 (pa_cons (pv 0) (pa_cons pe_int pa_nil))) (fun _ _ => rfl))) (pss_cons (ps_if (PW.pt (pw_or (pt_cmpR (op_neD hr.units) (pe_call (ok__law_told E TM TX) (hr.mono (by decide)) rfl E.d__law_told.g E.d__law_told.F.kp E.d__law_told.b .nil pass0 (pa_cons (pv 1) (pa_cons pe_non (pa_cons (pv 3) pa_nil)))) (pe_tup (pa_cons pe_str pa_nil)) (nomark _)) (pw_or1 (pt_cmpR (op_neD hr.units) (pe_call (ok__law_told E TM TX) (hr.mono (by decide)) rfl E.d__law_told.g E.d__law_told.F.kp E.d__law_told.b .nil pass0 (pa_cons (pv 1) (pa_cons (pe_tup pa_nil) (pa_cons (pv 3) pa_nil)))) (pe_tup (pa_cons pe_str pa_nil)) (nomark _))))) (pss_one (ps_ret pe_bl)) pss_nil) (pss_cons (ps_set (i := 4) sc__law_is_refused.nd rfl (by first | exact Or.inl rfl | exact Or.inr rfl) (pe_call (ok__law_odd_lot E) (hr.mono (by decide)) rfl E.d__law_odd_lot.g E.d__law_odd_lot.F.kp E.d__law_odd_lot.b .nil pass0 (pa_cons (pv 0) (pa_cons (pv 2) pa_nil)))) (pss_cons (ps_if (PW.pt (pw_and (pt_cmpR op_notN1 (pv 4) pe_non (nomark _)) (pw_and1 (pt_cmpR (op_neD hr.units) (pe_call (ok__law_told E TM TX) (hr.mono (by decide)) rfl E.d__law_told.g E.d__law_told.F.kp E.d__law_told.b .nil pass0 (pa_cons (pv 1) (pa_cons (pv 4) (pa_cons (pe_ix ix_list (pe_lst (pa_cons pe_int (pa_cons (pv 3) pa_nil))) (pe_call (ok__law_draw E) (hr.mono (by decide)) rfl E.d__law_draw.g E.d__law_draw.F.kp E.d__law_draw.b .nil pass0 (pa_cons (pv 0) (pa_cons pe_int pa_nil))) (fun _ _ => rfl)) pa_nil)))) (pe_tup (pa_cons pe_str pa_nil)) (nomark _))))) (pss_one (ps_ret pe_bl)) pss_nil) (pss_cons (ps_set (i := 5) sc__law_is_refused.nd rfl (by first | exact Or.inl rfl | exact Or.inr rfl) (pe_make E.mk_Web (ok_Web_init E) (hr.mono (by decide)) rfl E.g_Web E.i_Web.b .nil pass0 (pa_cons pe_int (pa_cons pe_int (pa_cons (pe_op op_repT (pe_tup (pa_cons (pe_tup (pa_cons (pe_tup (pa_cons pe_int pa_nil)) (pa_cons pe_int pa_nil))) pa_nil)) (pe_op op_add pe_int (pe_call (ok__law_draw E) (hr.mono (by decide)) rfl E.d__law_draw.g E.d__law_draw.F.kp E.d__law_draw.b .nil pass0 (pa_cons (pv 0) (pa_cons pe_int pa_nil))))) pa_nil))))) (pss_cons (ps_if (PW.pt (pw_or (pt_cmpR (op_neD hr.units) (pe_call (ok__law_told E TM TX) (hr.mono (by decide)) rfl E.d__law_told.g E.d__law_told.F.kp E.d__law_told.b .nil pass0 (pa_cons (pv 5) (pa_cons pe_non (pa_cons (pe_call (ok__law_draw E) (hr.mono (by decide)) rfl E.d__law_draw.g E.d__law_draw.F.kp E.d__law_draw.b .nil pass0 (pa_cons (pv 0) (pa_cons pe_int pa_nil))) pa_nil)))) (pe_tup (pa_cons pe_str (pa_cons pe_int pa_nil))) (nomark _)) (pw_or1 (pt_cmpR (op_neD hr.units) (pe_call (ok__law_told E TM TX) (hr.mono (by decide)) rfl E.d__law_told.g E.d__law_told.F.kp E.d__law_told.b .nil pass0 (pa_cons (pv 5) (pa_cons pe_non (pa_cons (pv 3) pa_nil)))) (pe_tup (pa_cons pe_str pa_nil)) (nomark _))))) (pss_one (ps_ret pe_bl)) pss_nil) (pss_cons (ps_set (i := 6) sc__law_is_refused.nd rfl (by first | exact Or.inl rfl | exact Or.inr rfl) (pe_tupRg rfl rfl E.f_tuple (prg_1 rfl E.f_range pe_int))) (pss_cons (ps_if (PW.pt (pw_or (pt_cmpR (op_neD hr.units) (pe_call (ok__law_told E TM TX) (hr.mono (by decide)) rfl E.d__law_told.g E.d__law_told.F.kp E.d__law_told.b .nil pass0 (pa_cons (pv 5) (pa_cons (pv 6) (pa_cons pe_int pa_nil)))) (pe_tup (pa_cons pe_str (pa_cons pe_int pa_nil))) (nomark _)) (pw_or1 (pt_cmpR (op_neD hr.units) (pe_call (ok__law_told E TM TX) (hr.mono (by decide)) rfl E.d__law_told.g E.d__law_told.F.kp E.d__law_told.b .nil pass0 (pa_cons (pv 5) (pa_cons (pv 6) (pa_cons (pv 3) pa_nil)))) (pe_tup (pa_cons pe_str pa_nil)) (nomark _))))) (pss_one (ps_ret pe_bl)) pss_nil) (pss_cons (ps_if (PW.pt (pw_and (pt_cmpR op_eq (pe_call (ok__law_draw E) (hr.mono (by decide)) rfl E.d__law_draw.g E.d__law_draw.F.kp E.d__law_draw.b .nil pass0 (pa_cons (pv 0) (pa_cons pe_int pa_nil))) pe_int (nomark _)) (pw_and1 (pt_cmpR (op_neD hr.units) (pe_call (ok__law_told E TM TX) (hr.mono (by decide)) rfl E.d__law_told.g E.d__law_told.F.kp E.d__law_told.b .nil pass0 (pa_cons (pv 5) (pa_cons (pe_slice sl_tupA (pv 6) (po_some pe_int) po_none) (pa_cons pe_int pa_nil)))) (pe_tup (pa_cons pe_str (pa_cons pe_bl pa_nil))) (nomark _))))) (pss_one (ps_ret pe_bl)) pss_nil) (pss_one (ps_ret (pe_and (pe_cmpR (op_eqD hr.units) (pe_call (ok__law_told E TM TX) (hr.mono (by decide)) rfl E.d__law_told.g E.d__law_told.F.kp E.d__law_told.b .nil pass0 (pa_cons (pv 5) (pa_cons (pe_tup (pa_cons pe_int (pa_cons pe_int pa_nil))) (pa_cons pe_int pa_nil)))) (pe_tup (pa_cons pe_str (pa_cons pe_bl pa_nil))) (nomark _)) (pe_one (pe_cmpR (op_eqD hr.units) (pe_call (ok__law_told E TM TX) (hr.mono (by decide)) rfl E.d__law_told.g E.d__law_told.F.kp E.d__law_told.b .nil pass0 (pa_cons (pv 5) (pa_cons (pe_tup (pa_cons pe_int (pa_cons pe_int pa_nil))) (pa_cons pe_int pa_nil)))) (pe_tup (pa_cons pe_str (pa_cons pe_bl pa_nil))) (nomark _))))))))))))))), ?_⟩
    have w40 := ok.len
    refine q_asgR (pick (m := 8) (d := d) (sc := sc) (Pp := OddK) dk (eah_cons (okv ev_c (fun _ => .int _) rfl) (eah_cons (okv (ev_un ev_c ru_neg) (fun _ => .int _) rfl) (eah_cons (okv ev_c (fun _ => .bl _) rfl) (eah_cons (okv ev_c (fun _ => .non) rfl) (eah_cons (okv ev_c (fun _ => .str _) rfl) (eah_cons (okv (v := .int (10 ^ 30)) (ev_op ev_c ev_c (rv_I (i := 10) (j := 30) ⟨by decide, by decide, by decide⟩)) (fun _ => .int _) (by decide +kernel)) (eah_cons (fun H1 e1 Q1 r1 => eu_tup (vs := [.int 1]) (ea_cons ev_c ea_nil) (by show 1 ≤ 100000; decide) H1 e1 Q1 fun p H2 np e2 hp => r1 _ _ e2 fun H3 e3 => ⟨.tup (e3 _ _ hp), rfl⟩) (eah_cons (okv ev_c (fun _ => .bl _) rfl) eah_nil)))))))) (by decide) (by decide) rfl (fun v H H' dk dk' e hv => ⟨hv.1.deck dk dk' e, hv.2⟩) fun odd H1 dk1 e1 hodd => ?_)
    · have hw1 := hw.deck dk e1
      obtain ⟨hth, hin⟩ := hodd
      have nmT : ∀ {σ : L2.St} {H : Hp}, EvP (tTup (tCons (tC (V.str "number")) tNil)) σ H (TupIs [.str "number"]) := evp_tupC (ea_cons ev_c ea_nil) (by show 1 ≤ 100000; decide)
      have myT : ∀ {σ : L2.St} {H : Hp}, EvP (tTup (tCons (tC (V.str "many")) (tCons (tC (V.int 12)) tNil))) σ H (TupIs [.str "many", .int 12]) := evp_tupC (ea_cons ev_c (ea_cons ev_c ea_nil)) (by show 2 ≤ 100000; decide)
      refine q_when (b := false || false) (et_or (et_test (ev_same (told_numN (ev_var rfl) (ev_var rfl) hw1 ok hth hin) nmT (dp_s _) z1 q1)) fun _ => et_test (ev_same (told_numL (l := []) (ev_var rfl) (fun H2 e2 Q2 r2 => eu_tup ea_nil (by decide) H2 (Ex.refl _) Q2 fun p H3 np e3 hp => r2 _ _ e3 fun H4 e4 => ⟨p, rfl, e4 _ _ hp⟩) (ev_var rfl) hw1 ok ⟨fun _ h => absurd h (by simp), List.Pairwise.nil⟩ hth hin) nmT (dp_s _) z1 q1)) (fun h => absurd h (by decide)) fun _ H2 e2 => ?_
      have dk2 := dk1.on e2
      have hw2 := hw1.on e2
      have hth2 := hth.on e2
      refine q_asgR ⟨_, rfl, _, rfl, d, sc, W.ps.length, rfl, dk2, fun lot H3 e3 dk3 hlot => ?_⟩
      have hw3 := hw2.deck dk2 e3
      have hth3 := hth2.deck dk2 dk3 e3
      refine q_whenD (d := d) (sc := sc) ?_ fun H4 dk4 e4 => ?_
      · rcases hlot with rfl | ⟨hn, hlb⟩
        · exact fd_and1 (fd_of (et_test (ev_op (x := .non) (ev_var rfl) ev_c fun H1 e1 Q q => ⟨rfl, q _ (Ex.refl _)⟩)) dk3)
        · refine fd_and2 (et_test (ev_op (x := lot) (ev_var rfl) ev_c fun H1 e1 Q q => ⟨rfl, by rw [decide_eq_false hn]; exact q _ (Ex.refl _)⟩)) dk3 fun H4 dk4 e4 Q4 q4 => ?_
          refine ⟨_, rfl, _, rfl, pick (m := 2) (d := d) (sc := sc) (Pp := fun v H => Th H v) dk4 (eah_cons (evp_of ev_c fun H' _ => .int _) (eah_cons (evp_of (ev_var rfl) fun H' e' => (hth3.on e4).on e') eah_nil)) (by decide) (by decide) rfl (fun v H H' dk dk' e hv => hv.deck dk dk' e) fun kv H5 dk5 e5 hkv => ?_⟩
          refine ⟨W, made, lot, kv, rfl, (hw3.on e4).deck dk4 e5, ok, hkv, .inr ⟨hn, .inl ⟨(hlb.on e4).deck dk4 dk5 e5, fun v H6 e6 pv => ?_⟩⟩⟩
          refine ne_end (K := K) pv (evp_tupC (ea_cons ev_c ea_nil) (by show 1 ≤ 100000; decide)) (dp_s _) z3 q3 fun H7 e7 => ?_
          exact ⟨false, rfl, q4 H7 (dk5.on (e6.trans e7)) (e5.trans (e6.trans e7))⟩
      · have hw4 := hw3.deck dk3 e4
        have hth4 := hth3.deck dk3 dk4 e4
        refine q_asgR ⟨by show 1 ≤ sizeLine; decide, fun p1 np1 => ⟨by show 2 ≤ sizeLine; decide, fun p2 np2 => ⟨by show 1 ≤ sizeLine; decide, fun p3 np3 => ?_⟩⟩⟩
        have a1 : Ex H4 (upd H4 p1 (.tup [.int 1])) := Ex.new np1
        have a2 := Ex.new (o := .tup [.ref p1, .int 4]) np2
        have a3 := Ex.new (o := .tup [.ref p2]) np3
        have eA := (a1.trans a2).trans a3
        have g1 := (a2.trans a3) _ _ (upd_same (H := H4) (a := p1) (o := .tup [.int 1]))
        have g2 := a3 _ _ (upd_same (a := p2) (o := .tup [.ref p1, .int 4]))
        have g3 := upd_same (H := upd (upd H4 p1 (.tup [.int 1])) p2 (.tup [.ref p1, .int 4])) (a := p3) (o := .tup [.ref p2])
        generalize upd (upd (upd H4 p1 (.tup [.int 1])) p2 (.tup [.ref p1, .int 4])) p3 (.tup [.ref p2]) = HA at eA g1 g2 g3 ⊢
        have dkA := dk4.on eA
        refine ⟨_, rfl, d, sc, 2, rfl, dkA, by decide, by decide, fun x H5 e5 dk5 x0 x1 => ⟨13, x, rfl, rfl, p3, 13 + x, [.ref p2], rfl, rfl, SqT.of ((dkA.t e5) _ _ g3 rfl), by simp, by omega, by omega, by show 1 ≤ 1000; decide, fun p4 np4 => ?_⟩⟩
        intro xx dx nxx ndx nex
        have hm : (13 + x).toNat = 13 ∨ (13 + x).toNat = 14 := by omega
        generalize hmm : (13 + x).toNat = m at hm ⊢
        have b1 := (dkA.t e5) _ _ g1 rfl
        have b2 := (dkA.t e5) _ _ g2 rfl
        have a4 := Ex.new (o := .tup (List.replicate m [V.ref p2]).flatten) np4
        rw [hmm] at nxx ndx
        have a5 : Ex (upd H5 p4 (.tup (List.replicate m [V.ref p2]).flatten)) (upd (upd (upd H5 p4 (.tup (List.replicate m [V.ref p2]).flatten)) dx (.own xx)) xx (.ins E.CW dx [])) := (Ex.new ndx).trans (Ex.new (by rw [upd_ne nex.symm]; exact nxx))
        have g4 := a5 _ _ (upd_same (H := H5) (a := p4) (o := .tup (List.replicate m [V.ref p2]).flatten))
        rw [List.flatten_replicate_singleton] at g4
        have e45 := a4.trans a5
        refine ⟨xx, dx, p4, WL m, rfl, upd_same, ⟨List.replicate m (.ref p2), ?_, ?_⟩, WL_ok (by omega), fun H6 k6 hx6 => ⟨rfl, ?_⟩⟩
        · rw [List.flatten_replicate_singleton]
          exact g4
        · exact paired_rep ⟨p2, p1, rfl, e45 _ _ b2, e45 _ _ b1⟩ m
        · have nx5 : H5 xx = none := fresh_back a4 nxx
          have nd5 : H5 dx = none := fresh_back a4 ndx
          have e56 : Ex H5 H6 := fun b o hb => k6 b o (ne_of_none hb nx5) (by rw [upd_ne (ne_of_none hb nx5), upd_ne (ne_of_none hb nd5)]; exact a4 _ _ hb)
          have hp6 : H6 p4 = some (.tup (List.replicate m (.ref p2))) := by
            refine k6 p4 _ (fun z => ?_) ?_
            · rw [z, upd_same] at nxx
              cases nxx
            · rw [List.flatten_replicate_singleton]
              exact g4
          have hL : WebAt E.CW (WL m) (.ref xx) H6 := ⟨xx, dx, p4, rfl, hx6, _, hp6, paired_rep ⟨p2, p1, rfl, e56 _ _ b2, e56 _ _ b1⟩ m⟩
          have dk6 := dk5.on e56
          have hth6 : Th H6 odd := ((hth4.on eA).deck dkA dk5 e5).on e56
          have okL : Wok (WL m) := WL_ok (by omega)
          have hLm : (WL m).ps.length = m := WL_len m
          clear hx6 k6 a5 g4 e45 a4 b1 b2 hp6 e56
          refine q_whenD (d := d) (sc := sc) (fd_or (fun Q4 q4 => ?_) fun H8 dk8 e8 => fd_of (et_test (ev_same (told_numN (ev_var rfl) (ev_var rfl) (hL.deck dk6 e8) okL (hth6.deck dk6 dk8 e8) hin) nmT (dp_s _) z1 q1)) dk8) fun H7 dk7 e7 => ?_
          · refine ⟨_, rfl, _, rfl, d, sc, 13, rfl, dk6, by decide, by decide, fun y H7 e7 dk7 y0 y1 => ⟨WL m, .ref xx, .non, .int y, rfl, hL.deck dk6 e7, okL, .int _, .inl ⟨rfl, .inr (.inl ⟨?_, by omega, fun v H8 e8 pv => ne_end (K := K) pv myT (dp_si _ _) z2 q2 fun H9 e9 => ⟨false, rfl, q4 H9 (dk7.on (e8.trans e9)) (e7.trans (e8.trans e9))⟩⟩)⟩⟩⟩
            show (decide (0 ≤ y) && decide (y ≤ 12)) = true
            rw [decide_eq_true y0, decide_eq_true (by omega)] <;> rfl
          · have hL7 := hL.deck dk6 e7
            have hth7 := hth6.deck dk6 dk7 e7
            refine q_asgP (evp_tupRg (n := 13) ev_c (by decide)) fun ev H8 e8 pe => ?_
            have hL8 := hL7.on e8
            have dk8 := dk7.on e8
            have hev := pe.now
            have lo13 : LotOk (WL m) (List.range 13) := ⟨fun i hi => by rw [hLm]; have := List.mem_range.mp hi; omega, List.pairwise_lt_range⟩
            refine q_when (b := false || false) (et_or (et_test (ev_same (told_manyL (l := List.range 13) (k := 12) (ev_var rfl) (evp_of (ev_var rfl) (LotAt.sta hev)) ev_c hL8 okL lo13 (by decide) (by decide) (by decide)) myT (dp_si _ _) z2 q2)) fun _ => et_test (ev_same (told_numL (l := List.range 13) (ev_var rfl) (evp_of (ev_var rfl) (LotAt.sta hev)) (ev_var rfl) hL8 okL lo13 (hth7.on e8) hin) nmT (dp_s _) z1 q1)) (fun h => absurd h (by decide)) fun _ H9 e9 => ?_
            have hL9 := hL8.on e9
            have dk9 := dk8.on e9
            have hev9 := LotAt.on e9 hev
            refine q_whenD (d := d) (sc := sc) (fun Q4 q4 => ?_) fun H10 dk10 e10 => ?_
            · refine ⟨_, rfl, d, sc, 24, rfl, dk9, by decide, by decide, fun y H10 e10 dk10 y0 y1 => ?_⟩
              refine ⟨rfl, _, rfl, ?_⟩
              by_cases hz : y = 0
              · rw [decide_eq_true (show V.int y = V.int 0 by rw [hz])]
                have hL10 := hL9.deck dk9 e10
                have lo12 : LotOk (WL m) ((List.range 13).drop 1) := ⟨fun i hi => lo13.inn i (List.mem_of_mem_drop hi), List.pairwise_lt_range.sublist (List.drop_sublist _ _)⟩
                obtain ⟨c, cs, hc, _⟩ := Mth.harms_first (F := (WL m).F) (lot := (List.range 13).drop 1) (Wb.F_nil okL)
                have hcl : c.length = 12 := WL_harm (m := m) (fun i hi => by have := lo12.inn i hi; rw [hLm] at this; exact this) (by decide) hc
                have hev10 : LotAt (List.range 13) ev H10 := hev9.t (dk9.t e10)
                exact et_test (ev_same (told_boolL (l := (List.range 13).drop 1) (k := 11) (b := true) (ev_var rfl) (evp_slA (lo := some 1) (hi := none) (ev_var rfl) hev10 (eo_some ev_c) eo_none (by decide +kernel)) ev_c hL10 okL lo12 (by decide) (by decide) (by decide) hc (by rw [hcl]; decide)) (evp_tupC (ea_cons ev_c (ea_cons ev_c ea_nil)) (by show 2 ≤ 100000; decide)) (dp_sb _ _) (z4 _) (Wk.q4 _)) H10 (Ex.refl _) Q4 fun H11 e11 => q4 H11 (dk10.on e11) (e10.trans e11)
              · rw [decide_eq_false (show ¬ V.int y = V.int 0 from fun z => hz (V.int.inj z))]
                exact q4 H10 dk10 e10
            · have hL10 := hL9.deck dk9 e10
              have lo2 : LotOk (WL m) [0, 12] := ⟨fun i hi => by rw [hLm]; rcases List.mem_cons.mp hi with rfl | hi; omega; rw [List.mem_singleton.mp hi]; omega, by decide⟩
              obtain ⟨c, cs, hc, _⟩ := Mth.harms_first (F := (WL m).F) (lot := [0, 12]) (Wb.F_nil okL)
              have hcl : c.length = 2 := WL_harm (m := m) (fun i hi => by have := lo2.inn i hi; rw [hLm] at this; exact this) (by decide) hc
              have t2 : ∀ {σ : L2.St} {H : Hp}, EvP (tTup (tCons (tC (V.int 0)) (tCons (tC (V.int 12)) tNil))) σ H (LotAt [0, 12]) := fun {σ H} H1 e1 Q r => eu_tup (vs := [nV 0, nV 12]) (ea_cons ev_c (ea_cons ev_c ea_nil)) (by show 2 ≤ 100000; decide) H1 e1 Q fun p H2 np e2 hp => r _ _ e2 fun H3 e3 => ⟨p, rfl, e3 _ _ hp⟩
              refine s_ret (ev_andV (a := true) (b := true) (ev_sameE (told_boolL (l := [0, 12]) (k := 2) (b := false) (ev_var rfl) t2 ev_c hL10 okL lo2 (by decide) (by decide) (by decide) hc (by rw [hcl]; decide)) (evp_tupC (ea_cons ev_c (ea_cons ev_c ea_nil)) (by show 2 ≤ 100000; decide)) (dp_sb _ _) (z4 _) (q4 _)) fun _ => ev_sameE (told_boolL (l := [0, 12]) (k := 1) (b := true) (ev_var rfl) t2 ev_c hL10 okL lo2 (by decide) (by decide) (by decide) hc (by rw [hcl]; decide)) (evp_tupC (ea_cons ev_c (ea_cons ev_c ea_nil)) (by show 2 ≤ 100000; decide)) (dp_sb _ _) (z4 _) (q4 _)) fun H11 _ => k H11
end
end Wk
end

section
set_option Elab.async false
set_option linter.all false
set_option maxRecDepth 100000
/-! lots with their sizes, as data: the order -/
namespace Mth
open PySem PySem.W PySem.SeqAt PyProof.Rows
abbrev dI (l : List Nat) : List PyData := l.map fun i : Nat => PyData.int (i : Int)
def d3 (f : List Nat → Int) (l : List Nat) : PyData := .tuple [.int (f l), .int (l.length : Int), .tuple (dI l)]
theorem alike_dI : ∀ a b : List Nat, alikeAll (dI a) (dI b) = true
  | [], b => by
    unfold dI
    simp [alikeAll]
  | _ :: _, [] => by
    unfold dI
    simp [alikeAll]
  | a :: s, b :: t => by
    have ih := alike_dI s t
    unfold dI at ih ⊢
    simp [alikeAll, alike, ih]
theorem alike_d3 (f : List Nat → Int) (a b : List Nat) : alike (d3 f a) (d3 f b) = true := by
  simp [d3, alike, alikeAll, alike_dI a b]
theorem eqv_int (x y : Int) : PyData.eqv (.int x) (.int y) = decide (x = y) := by
  simp only [PyData.eqv]
  by_cases h : x = y
  · rw [h, decide_eq_true rfl]
    exact beq_self_eq_true y
  · rw [decide_eq_false h]
    exact beq_eq_false_iff_ne.mpr h
theorem lt_one {x y : Int} {xs ys : List PyData} : PyProof.Rows.lexLt itemOrd (keyToksAll (.int x :: xs)) (keyToksAll (.int y :: ys)) = if x = y then PyProof.Rows.lexLt itemOrd (keyToksAll xs) (keyToksAll ys) else decide (x < y) := by
  have h : alike (.int x) (.int y) = true := by simp [alike]
  by_cases e : x = y
  · rw [if_pos e]
    exact dataLt_all_yes h (by rw [eqv_int, decide_eq_true e])
  · rw [if_neg e, dataLt_all_no h (by rw [eqv_int, decide_eq_false e]), dataLt_int]
theorem lt_dI : ∀ a b : List Nat, PyProof.Rows.lexLt itemOrd (keyToksAll (dI a)) (keyToksAll (dI b)) = true ↔ ltL a b
  | [], [] => by
    have e : PyProof.Rows.lexLt itemOrd (keyToksAll (dI [])) (keyToksAll (dI [])) = false := by
      simp only [dI, List.map_nil, keyToksAll]
      rw [lex_one]
      rfl
    rw [e]
    exact ⟨fun h => (by cases h), fun h => h.elim⟩
  | [], b :: t => by
    have e : PyProof.Rows.lexLt itemOrd (keyToksAll (dI [])) (keyToksAll (dI (b :: t))) = true := by
      simp only [dI, List.map_nil, List.map_cons, keyToksAll]
      rw [lex_atom (by intro z; injection z with z; cases z), lex_one]
      rfl
    rw [e]
    exact ⟨fun _ => trivial, fun _ => rfl⟩
  | a :: s, [] => by
    have e : PyProof.Rows.lexLt itemOrd (keyToksAll (dI (a :: s))) (keyToksAll (dI [])) = false := by
      simp only [dI, List.map_nil, List.map_cons, keyToksAll]
      rw [lex_atom (by intro z; injection z with z; cases z), lex_one]
      rfl
    rw [e]
    exact ⟨fun h => (by cases h), fun h => h.elim⟩
  | a :: s, b :: t => by
    have ih := lt_dI s t
    show PyProof.Rows.lexLt itemOrd (keyToksAll (.int (a : Int) :: dI s)) (keyToksAll (.int (b : Int) :: dI t)) = true ↔ (a < b ∨ (a = b ∧ ltL s t))
    rw [lt_one]
    by_cases e : (a : Int) = (b : Int)
    · rw [if_pos e, ih]
      have e2 : a = b := by omega
      exact ⟨fun h => .inr ⟨e2, h⟩, fun h => by
        rcases h with h | ⟨_, h⟩
        · omega
        · exact h⟩
    · rw [if_neg e, decide_eq_true_iff]
      exact ⟨fun h => .inl (by omega), fun h => by
        rcases h with h | ⟨h, _⟩
        · omega
        · omega⟩
theorem d3_lt (f : List Nat → Int) (a b : List Nat) : dataLt (d3 f a) (d3 f b) = true ↔ ltK f a b := by
  have ha := alike_dI a b
  unfold d3 ltK
  rw [dataLt_tuple, lt_one]
  by_cases e : f a = f b
  · rw [if_pos e, lt_one]
    by_cases e2 : (a.length : Int) = (b.length : Int)
    · rw [if_pos e2]
      have e3 : a.length = b.length := by omega
      have key : PyProof.Rows.lexLt itemOrd (keyToksAll [.tuple (dI a)]) (keyToksAll [.tuple (dI b)]) = true ↔ ltL a b := by
        have hal : alike (.tuple (dI a)) (.tuple (dI b)) = true := by simp [alike, ha]
        cases q : PyData.eqv (.tuple (dI a)) (.tuple (dI b)) with
        | true =>
          rw [dataLt_all_yes hal q]
          have z : PyProof.Rows.lexLt itemOrd (keyToksAll []) (keyToksAll []) = false := by
            simp only [keyToksAll]
            rw [lex_one]
            rfl
          rw [z]
          have z2 := (toks_eqv (.tuple (dI a)) (.tuple (dI b)) hal).1 q
          simp only [keyToks] at z2
          have z3 := lt_dI a b
          rw [z2] at z3
          have z4 := lt_dI b b
          exact ⟨fun h => (by cases h), fun h => absurd (z4.mp (z3.mpr h)) (ltL_irr b)⟩
        | false =>
          rw [dataLt_all_no hal q, dataLt_tuple]
          exact lt_dI a b
      rw [key]
      exact ⟨fun h => .inr ⟨e, .inr ⟨e3, h⟩⟩, fun h => by
        rcases h with h | ⟨_, h | ⟨_, h⟩⟩
        · omega
        · omega
        · exact h⟩
    · rw [if_neg e2, decide_eq_true_iff]
      exact ⟨fun h => .inr ⟨e, .inl (by omega)⟩, fun h => by
        rcases h with h | ⟨_, h | ⟨h, _⟩⟩
        · omega
        · omega
        · omega⟩
  · rw [if_neg e, decide_eq_true_iff]
    exact ⟨fun h => .inl h, fun h => by
      rcases h with h | ⟨h, _⟩
      · exact h
      · exact absurd h e⟩
theorem dI_inj : ∀ {a b : List Nat}, dI a = dI b → a = b
  | [], [], _ => rfl
  | [], _ :: _, h => by cases h
  | _ :: _, [], h => by cases h
  | a :: s, b :: t, h => by
    unfold dI at h
    rw [List.map_cons, List.map_cons] at h
    injection h with h1 h2
    injection h1 with h1
    have e : a = b := by omega
    rw [e, dI_inj (show dI s = dI t from h2)]
theorem d3_inj {f : List Nat → Int} {a b : List Nat} (h : d3 f a = d3 f b) : a = b := by
  unfold d3 at h
  injection h with h
  injection h with _ h
  injection h with _ h
  injection h with h _
  injection h with h
  exact dI_inj h
theorem min_fold {f : List Nat → Int} {l : List Nat} : ∀ (xs : List (List Nat)) (x : List Nat), (∀ s, s ∈ x :: xs → s ≠ l → ltK f l s) → l ∈ x :: xs → minD (d3 f x) (xs.map (d3 f)) = d3 f l
  | [], x, _, hm => by
    rw [List.mem_singleton.mp hm]
    rfl
  | y :: ys, x, h, hm => by
    show minD (if dataLt (d3 f y) (d3 f x) then d3 f y else d3 f x) (ys.map (d3 f)) = d3 f l
    by_cases c : dataLt (d3 f y) (d3 f x) = true
    · rw [if_pos c]
      refine min_fold ys y (fun s hs => h s (List.mem_cons_of_mem _ hs)) ?_
      rcases List.mem_cons.mp hm with e | e
      · rw [← e] at c
        have q := (d3_lt f y l).mp c
        by_cases z : y = l
        · rw [z]
          exact List.mem_cons_self
        · exact absurd q (ltK_asy (h y (List.mem_cons_of_mem _ List.mem_cons_self) z))
      · exact e
    · rw [if_neg c]
      refine min_fold ys x (fun s hs => h s (by
        rcases List.mem_cons.mp hs with e | e
        · rw [e]
          exact List.mem_cons_self
        · exact List.mem_cons_of_mem _ (List.mem_cons_of_mem _ e))) ?_
      rcases List.mem_cons.mp hm with e | e
      · rw [e]
        exact List.mem_cons_self
      · rcases List.mem_cons.mp e with e | e
        · by_cases z : x = l
          · rw [z]
            exact List.mem_cons_self
          · exfalso
            rw [← e] at c
            exact c ((d3_lt f l x).mpr (h x List.mem_cons_self z))
        · exact List.mem_cons_of_mem _ e
theorem depth_dI : ∀ l : List Nat, PyData.depthAll (dI l) = 0
  | [] => rfl
  | i :: l => by
    have ih := depth_dI l
    unfold dI at ih ⊢
    simp [PyData.depthAll, PyData.depth, ih]
theorem depth_d3 (f : List Nat → Int) (l : List Nat) : (d3 f l).depth ≤ 4 := by
  have h := depth_dI l
  simp [d3, PyData.depth, PyData.depthAll, h]
theorem depth_d3s (f : List Nat → Int) : ∀ ls : List (List Nat), PyData.depthAll (ls.map (d3 f)) ≤ 4
  | [] => by simp [PyData.depthAll]
  | l :: ls => by
    have ih := depth_d3s f ls
    have h := depth_d3 f l
    simp only [List.map_cons, PyData.depthAll]
    omega
theorem alike_d3s (f : List Nat → Int) (ls : List (List Nat)) : AlikeAll (ls.map (d3 f)) := by
  refine ⟨fun x hx y hy => ?_, fun x hx => ?_⟩
  · obtain ⟨a, _, rfl⟩ := List.mem_map.mp hx
    obtain ⟨b, _, rfl⟩ := List.mem_map.mp hy
    exact alike_d3 f a b
  · obtain ⟨a, _, rfl⟩ := List.mem_map.mp hx
    unfold d3
    intro z
    cases z
end Mth
end

section
set_option Elab.async false
set_option linter.all false
set_option maxRecDepth 100000
set_option maxHeartbeats 2000000
/-! rules for the law itself: the keys of a dict of lots in a comprehension, min of data, repr of data -/
namespace Wk
open PySem PySem.Spec PyProof.Rows L2 Evl Rk
section
variable {ls : List (List Nat)} {f g : List Nat → Bool} {d : Addr} {od : Obj} {H1 : Hp} {σ : L2.St} {own : List Nat} {tt : TT} {te : TE} {j : Nat} {Q : VK}
theorem dl_len2 {f : List Nat → Bool} {ls : List (List Nat)} : (dl f ls).length = ls.length := by
  unfold dl
  rw [List.length_map]
/-- the keys of a locked dict of lots -/
theorem lc_keysT (hd : H1 d = some (.frz od (.dT (dl f ls)))) (P : List Nat → V → Hp → Prop) (hP : ∀ a y H H', ExT H H' → P a y H → P a y H') (hl : ls.length ≤ 16000000)
    (hw : ∀ x, wipe ((wipe σ own).set j (some x)) own = wipe σ own) (ht : ∀ s v H, Ex H1 H → s ∈ ls → LotAt s v H → EvT tt ((wipe σ own).set j (some v)) H (g s))
    (he : ∀ s v H, Ex H1 H → s ∈ ls → LotAt s v H → g s = true → EvP te ((wipe σ own).set j (some v)) H (P s))
    (q : ∀ D ys H', H1 D = none → Ex H1 H' → H' D = some (.lst ys) → Paired (fun a y => P a y H') (ls.filter g) ys → Q (.ref D) H') : LcAt (Itkt d od (dl f ls)) (gName j) tt te own σ H1 Q := fun D hD =>
  lc_it walk_keysT (Cp H1 D ls g P) ⟨hD, Ex.new hD, [], upd_same, .nil⟩ (fun i H _ c => c.2.1 _ _ hd) (fun i x H H' hi c y => by
    obtain ⟨rfl, k, v, b, h1, rfl, h3⟩ := y
    have h1' : (ls.map fun s => (kl s, V.bl (f s)))[i]? = some (k, v) := h1
    rw [List.getElem?_map] at h1'
    cases hs : ls[i]? with
    | none =>
      rw [hs] at h1'
      cases h1'
    | some s =>
      rw [hs] at h1'
      obtain ⟨rfl, rfl⟩ : kl s = k ∧ V.bl (f s) = v := Prod.mk.inj (Option.some.inj h1')
      have hsa : LotAt s (.ref b) H' := ⟨b, rfl, by rw [← kl_v]; exact h3⟩
      have hm : s ∈ ls := List.mem_of_getElem? hs
      exact ⟨hw _, cp_turn hP c (Ex.refl _) hs hl (ht s _ H' c.2.1 hm hsa) fun hf => he s _ H' c.2.1 hm hsa hf⟩) (fun H c => by
    obtain ⟨c1, c2, ys, c3, c4⟩ := c
    rw [dl_len2, List.take_length] at c4
    exact q D ys H c1 c2 c3 c4)
end
/-- min(xs), xs a list of alike data -/
def rMinD (K : PySem.W.Frag) : List V → Hp → VK → Prop := fun vs H Q => ∃ (a : Addr) (ys : List V) (d : PyData) (ds : List PyData), vs = [.ref a] ∧ SqL K H a ys ∧ DpAll K H ys (d :: ds) ∧ PySem.W.AlikeAll (d :: ds) ∧ PyData.depthAll (d :: ds) ≤ 16 ∧
  ∀ (i : Nat) (y : V), ys[i]? = some y → (d :: ds)[i]? = some (PySem.W.minD d ds) → Q y H
theorem minD_mem : ∀ (xs : List PyData) (x : PyData), PySem.W.minD x xs ∈ x :: xs
  | [], x => List.mem_cons_self
  | y :: ys, x => by
    have ih := minD_mem ys (if PySem.W.dataLt y x then y else x)
    show PySem.W.minD (if PySem.W.dataLt y x then y else x) ys ∈ _
    rcases List.mem_cons.mp ih with h | h
    · rw [h]
      split
      · exact List.mem_cons_of_mem _ List.mem_cons_self
      · exact List.mem_cons_self
    · exact List.mem_cons_of_mem _ (List.mem_cons_of_mem _ h)
theorem readsAll_get {h : Heap} : ∀ {vs : List Value} {xs : List PyData} {as : List Addr} {i : Nat} {v : Value}, ReadsAll h vs xs as → vs[i]? = some v → ∃ x bs, xs[i]? = some x ∧ Reads h v x bs
  | _, _, _, i, v, .nil, e => by simp at e
  | _, _, _, 0, v, .cons a b, e => by
    simp at e
    subst e
    exact ⟨_, _, rfl, a⟩
  | _, _, _, i + 1, v, .cons a b, e => by
    obtain ⟨x, bs, h1, h2⟩ := readsAll_get (i := i) (v := v) b (by simpa using e)
    exact ⟨x, bs, by simpa using h1, h2⟩
theorem vals_get : ∀ {xs : List V} {us : List Value} {i : Nat} {u : Value}, Vals xs us → us[i]? = some u → ∃ x, xs[i]? = some x ∧ RelV x u
  | _, _, i, u, .nil, e => by simp at e
  | _, _, 0, u, .cons a b, e => by
    simp at e
    subst e
    exact ⟨_, rfl, a⟩
  | _, _, i + 1, u, .cons a b, e => by
    obtain ⟨x, h1, h2⟩ := vals_get (i := i) (u := u) b (by simpa using e)
    exact ⟨x, by simpa using h1, h2⟩
section
variable {X : Cx}
theorem cr_minD (hc : X.calm = true) (hu : X.A.units + 64 < cLine) : CallR X (.builtin "min") (rMinD X.K) := by
  intro pins s σ H vs us Q I r h
  obtain ⟨a, ys, d, ds, rfl, hs, hd, al, dp, q⟩ := h
  obtain ⟨its, rv, hl, _⟩ := I.list hs
  rw [Vals.ref1 r]
  obtain ⟨as, ra⟩ := Dp.readsAll I (d :: ds) ys its hd rv
  refine PySem.W.min_list_data (I.ok.hd hc) hl.isList (by simpa using ra) al (by omega) fun i v h' tk bs hv hr kp => ?_
  have hv' : its[i]? = some v := by
    rw [← hv]
    simp
  obtain ⟨x, cs, hx, hrx⟩ := readsAll_get ra hv'
  obtain ⟨y, hy, hyv⟩ := vals_get rv hv'
  have e : x = PySem.W.minD d ds := PySem.W.alike_unique x (PySem.W.minD d ds) v cs bs (al.1 x (List.mem_of_getElem? hx) _ (minD_mem ds d)) (PySem.W.reads_keeps kp hrx) hr
  rw [e] at hx
  exact ⟨y, H, I.kept kp, hyv, q i y hy hx⟩
/-- repr(t), t a tuple or a list of data, where no other repr is under way -/
def rReprD (K : PySem.W.Frag) : List V → Hp → VK → Prop := fun vs H Q => ∃ (a : Addr) (d : PyData), vs = [.ref a] ∧ Dp K H (.ref a) d ∧ d.showable = true ∧ d.hasDict = false ∧ d.depth ≤ 16 ∧ d.shown.length ≤ sizeLine ∧ Q (.str d.shown) H
theorem cr_reprD (hg : X.A.guards = some []) (hu : X.A.units + 64 < cLine) : CallR X (.builtin "repr") (rReprD X.K) := by
  intro pins s σ H vs us Q I r h
  obtain ⟨a, d, rfl, hd, h1, h2, h3, h4, q⟩ := h
  rw [Vals.ref1 r]
  obtain ⟨as, ra⟩ := Dp.reads I d (.ref a) (.ref a) hd rfl
  refine repr_of_reads' ra h1 (PyData.noDict_hsm h2) hg (by omega) (fun _ _ e => e) (fun h' u tk kp => ?_) h4
  exact ⟨.str d.shown, H, I.kept kp, ⟨u, rfl⟩, q⟩
end
end Wk
end

section
set_option Elab.async false
set_option linter.all false
set_option maxRecDepth 100000
set_option maxHeartbeats 2000000
/-! a def that is called where no guard is under way (repr asks that), and the law's end over it -/
namespace Wk
open PySem PySem.Spec PyProof.Rows L2 Evl Rk
/-- the promise of a def, kept where no guard stands in the stack -/
def RunG (P : Program) (w : World) (K : PySem.W.Frag) (mg : Str → Option Value) (base : Heap) (CX : CXT) (k : Nat) (f : Addr) (fd : FuncData) (ps : List Str) (sp : Sp) : Prop :=
  ∀ (A : Around) (st : List PySem.Env) (s : Shared) (H : Hp) (args : Args) (us : List Value) (vs : List V) (Q : VK) (E : XK), A.guards = some [] → Room k A → Env0 P w K mg base A st s H →
    BindsTo s fd args (ps.zip us) → Vals vs us → sp vs H Q E → codeAny (model P w) A (.call (.ref f) args) (CR CX st P w H s Q E) s
section
variable {K : PySem.W.Frag} {base : Heap} {mg : Str → Option Value} {P : Program} {w : World} {CX : CXT} {N ps : List Str} {k : Nat} {sp : Sp} {x qual : Str} {params : Arguments} {body : List Stmt} {scope : Scope} {f : Addr} {fd : FuncData}
theorem FunD.okG {dvs : List V} {kws : List (Str × V)} (F : FunD K x qual params body scope dvs kws f fd) (S : FnScope N ps scope) (len : ∀ vs H Q E, sp vs H Q E → vs.length = ps.length)
    (walk : ∀ (A : Around) (cdv : Value) (st : List PySem.Env) (s : Shared) (H : Hp) (vs : List V) (Q : VK) (E : XK), A.guards = some [] → Room k (A.deeper (envOfC qual scope s.heap.objs.size f cdv)) → sp vs H Q E →
      ∃ t : TS, t { nx := fun _ H' => Q .non H', rt := Q } (start N vs) H ∧ PSs (cxOf CX P w K mg base N qual scope f cdv A st s H E) body t) : RunG P w K mg base CX (k + 1) f fd ps sp := by
  obtain ⟨o1, o2, v1, v2, v3, v4, an, cdv, ct, sl, efd, lk, hcode, -, -⟩ := F.ex
  cases efd
  intro A st s H args us vs Q E gn room e0 bindB rv hsp
  have kept : ∀ b o, base.get? b = some o → s.heap.get? b = some o := fun b o q => (e0.bs b o q).1
  have inS : K.In s.heap := e0.mod.kin.keeps kept
  have pars : ∀ y ∈ ps.zip us, scope.names.lookup y.1 = some .local ∨ (scope.names.lookup y.1 = some .cell ∧ ((cellsFrom (s.heap.objs.size + 1) scope.names []).lookup y.1).isSome = true) := by
    rintro ⟨n, v⟩ hy
    cases S.par n (List.of_mem_zip hy).1 with
    | inl q => exact Or.inl q
    | inr q => exact Or.inr ⟨q, PySem.W.cellsFrom_some _ _ _ (Or.inl q)⟩
  refine codeAny_call_function room.depth (inS _ _ lk) rfl S.co S.gen rfl (PySem.W.codeRec_of inS hcode) (bindB _ _ _ _ ?_)
  refine wpAny_newFunctionEnv_cells S.kind pars fun env he s1 ic => ?_
  cases he
  refine ⟨(e0.mod.nolimit.keeps kept).keeps ic.toInCall.keep, codeAny_func ?_⟩
  obtain ⟨t, hq, ht⟩ := walk A cdv st s H vs Q E gn (room.deeper _) hsp
  have I0 : Inv (cxOf CX P w K mg base N qual scope f cdv A st s H E) [] (start N vs) H s1 := inv_start S room.hd e0 (len _ _ _ _ hsp) rv ic
  refine wpAny_mono (ht.run [] s1 _ H _ I0 hq) ?_ fun _ _ z => z
  intro fl s' hs
  cases fl with
  | brk =>
    obtain ⟨_, _, _, z⟩ := hs
    exact z.elim
  | cont =>
    obtain ⟨_, _, _, z⟩ := hs
    exact z.elim
  | next =>
    obtain ⟨_, H', J, z⟩ := hs
    exact ⟨V.non, H', J.os, J.bare, J.base, J.hok, rfl, z⟩
  | ret u =>
    obtain ⟨v, _, H', J, r, z⟩ := hs
    exact ⟨v, H', J.os, J.bare, J.base, J.hok, r, z⟩
end
/-- the script's object -/
abbrev scriptO (vs : List Value) : Obj := { cls := .type "list", data := .seq vs.toArray }
/-- what is tracked where the law begins: the table at T, the script at a (unless it is the module's own) -/
def heap0 (K : PySem.W.Frag) (T a : Addr) (vs : List Value) (ns : List Int) : Hp := fun b => if b = T then some (.tbl #[]) else if b = a ∧ K.lookup a = none then some (.frz (scriptO vs) (.lst (ns.map V.int))) else none
section
variable {P : Program} {w : World} {K : PySem.W.Frag} {mg mb : Str → Option Value} {T a : Addr} {vs : List Value} {ns : List Int} {h : Heap}
theorem heap0_T : heap0 K T a vs ns T = some (.tbl #[]) := if_pos rfl
theorem heap0_some {b : Addr} {u : HO} (e : heap0 K T a vs ns b = some u) : (b = T ∧ u = .tbl #[]) ∨ (b = a ∧ K.lookup a = none ∧ u = .frz (scriptO vs) (.lst (ns.map V.int))) := by
  unfold heap0 at e
  split at e
  · rename_i q
    exact .inl ⟨q, (Option.some.inj e).symm⟩
  · split at e
    · rename_i q
      exact .inr ⟨q.1, q.2, (Option.some.inj e).symm⟩
    · cases e
theorem heap0_none {b : Addr} (h1 : b ≠ T) (h2 : b = a → K.lookup a ≠ none) : heap0 K T a vs ns b = none := by
  unfold heap0
  rw [if_neg h1, if_neg]
  exact fun q => h2 q.1 q.2
theorem law_callG {CX : CXT} {k : Nat} {fa c : Addr} {fd : FuncData} {x : Str} {sp : Sp} {s₁ : Shared}
    (kin0 : K.In s₁.heap) (nsG : s₁.heap.Ns mainGlobals mg) (bindB : s₁.heap.Ns builtinsNs mb) (bltB : ∀ x : Str, x ≠ "__name__" → mb x = bootBuiltins x) (noLim : s₁.heap.NoLimit) (gn : s₁.gens = #[])
    (tabT : s₁.heap.get? T = some { cls := .none, data := .fields #[] }) (outT : K.lookup T = none) (C : PySem.W.CodeHd s₁.heap c T)
    (bmod : ∃ (bm : Addr) (ob : Obj), mg "__builtins__" = some (.ref bm) ∧ bm ≠ builtinsNs ∧ s₁.heap.get? bm = some ob ∧ ob.cls = .type "module" ∧ ob.dict = some builtinsNs ∧ ob.data = .plain)
    (ha : s₁.heap.get? a = some (scriptO vs)) (hi : IntsAre vs ns) (hl : ns.length ≤ sizeLine) (room : Room k callerA)
    (F : ∀ base : Heap, K.In base → base.Ns mainGlobals mg → LamX.TabB base mg c T → RunG P w K mg base CX k fa fd [x] sp) (hbind : ∀ (s : Shared) (u : Value), BindsTo s fd ⟨[u], []⟩ [(x, u)])
    (hsp : ∀ H : Hp, H T = some (.tbl #[]) → SqL K H a (ns.map V.int) → sp [.ref a] H (fun v _ => v = .bl true) fun _ _ _ => False)
    (noExc : ∀ H e s', CX [] H s₁ (fun _ _ _ => False) e s' → False) :
    codeAny (model P w) callerA (.call (.ref fa) ⟨[.ref a], []⟩) (fun (r : Result) (s' : Shared) => r = .ok (.ret (.bool true)) ∧ OldK s₁.heap s'.heap ∧ s'.os = s₁.os ∧ AllBare s'.gens) s₁ := by
  have rv := vals_ints hi
  have hlen := hi.length
  have naT : a ≠ T := fun q => by
    rw [q, tabT] at ha
    have z := congrArg Obj.data (Option.some.inj ha)
    cases z
  -- what is neither a list nor an empty record is not tracked
  have off : ∀ {b : Addr} {o : Obj}, s₁.heap.get? b = some o → (∀ l n, o.data ≠ .seq l n) → o.data ≠ .fields #[] → heap0 K T a vs ns b = none := by
    intro b o e z1 z2
    refine heap0_none (fun q => z2 ?_) fun q => (z1 vs.toArray 0 ?_).elim
    · rw [q, tabT] at e
      rw [← Option.some.inj e]
    · rw [q, ha] at e
      rw [← Option.some.inj e]
  have low : ∀ {b : Addr} {o : Obj}, s₁.heap.get? b = some o → heap0 K T a vs ns b = none → (hidT s₁.heap (heap0 K T a vs ns)).get? b = some o := fun q1 q2 => hidT_get q1 q2
  have names : ∀ {b : Addr} {m : Str → Option Value}, s₁.heap.Ns b m → (hidT s₁.heap (heap0 K T a vs ns)).Ns b m := by
    rintro b m ⟨o, es, ep, e, hda, r⟩
    exact ⟨o, es, ep, low e (off e (fun _ _ z => by rw [hda] at z; cases z) fun z => by rw [hda] at z; cases z), hda, r⟩
  have inB : K.In (hidT s₁.heap (heap0 K T a vs ns)) := by
    intro b o e
    refine low (kin0 b o e) (heap0_none (fun q => ?_) fun q z => ?_)
    · rw [q, outT] at e
      cases e
    · rw [q, z] at e
      cases e
  have hM : Mod K mg (hidT s₁.heap (heap0 K T a vs ns)) := by
    obtain ⟨mc, l1, l2⟩ := noLim
    exact ⟨inB, names nsG, ⟨mb, names bindB, bltB⟩, ⟨mc, names l1, l2⟩⟩
  have hok : HOk P w (heap0 K T a vs ns) s₁.heap := by
    intro b u e
    rcases heap0_some e with ⟨rfl, rfl⟩ | ⟨rfl, _, rfl⟩
    · exact tabT
    · exact ⟨ha, by rw [List.length_map]; exact hl, vs, 0, rv, ha⟩
  have hS : SqL K (heap0 K T a vs ns) a (ns.map V.int) := by
    cases q : K.lookup a with
    | none => exact Or.inl (Or.inr ⟨scriptO vs, by unfold heap0; rw [if_neg naT, if_pos ⟨rfl, q⟩]⟩)
    | some o =>
      have e := kin0 a o q
      rw [ha] at e
      cases e
      exact Or.inr ⟨_, vs.toArray, _, q, rfl, rfl, rfl, by rw [List.size_toArray, hlen]; exact hl, by simpa using rv⟩
  have tab : LamX.TabB (hidT s₁.heap (heap0 K T a vs ns)) mg c T := by
    have nG : mainGlobals ≠ T := fun q => by
      obtain ⟨o, es, ep, e, hda, _⟩ := nsG
      rw [q, tabT] at e
      cases e
      cases hda
    refine ⟨?_, ?_, nG⟩
    · obtain ⟨o, us, w1, w2, w3, w4, w5, w6, w7, e1, r1, r2, r3, rest⟩ := C
      refine ⟨o, us, w1, w2, w3, w4, w5, w6, w7, low e1 (off e1 (fun _ _ z => ?_) fun z => ?_), r1, r2, r3, rest⟩
      · rw [r2] at z
        cases z
      · rw [r2] at z
        cases z
        simp at r3
    · obtain ⟨bm, ob, b1, b2, b3, b4, b5, b6⟩ := bmod
      have off' : heap0 K T a vs ns bm = none := off b3 (fun _ _ z => by rw [b6] at z; cases z) fun z => by rw [b6] at z; cases z
      refine ⟨bm, ob, b1, b2, fun q => ?_, fun q => ?_, low b3 off', b4, b5, b6⟩
      · obtain ⟨o, es, ep, e, hda, _⟩ := nsG
        rw [q, e] at b3
        cases b3
        rw [hda] at b6
        cases b6
      · rw [q, tabT] at b3
        cases b3
        cases b6
  have e0 : Env0 P w K mg (hidT s₁.heap (heap0 K T a vs ns)) callerA [] s₁ (heap0 K T a vs ns) :=
    { frames := rfl, mod := hM, bs := fun b o e => of_hidT e, bsz := Nat.le_of_eq (hidT_size _ _), funs := trivial, frf := fun b z => absurd (show b ∈ ([] : List Addr) from z) (by simp), hok := hok, bare := .of_eq gn }
  refine codeAny_mono (F _ inB (names nsG) tab callerA [] s₁ (heap0 K T a vs ns) ⟨[.ref a], []⟩ [.ref a] [.ref a] _ _ rfl room e0 (hbind s₁ (.ref a)) (.cons rfl .nil) (hsp _ heap0_T hS)) ?_
  intro r s' q
  cases r with
  | error e => exact (noExc _ e s' q).elim
  | ok fl =>
    cases fl with
    | next => exact q.elim
    | brk => exact q.elim
    | cont => exact q.elim
    | ret u =>
      obtain ⟨v, H', osEq, bareEq, un, hok', r', z⟩ := q
      cases (show v = .bl true from z)
      cases (show u = Value.bool true from r')
      obtain ⟨more, hm⟩ := un.tbls T #[] heap0_T
      have tabE : s'.heap.get? T = some { cls := .none, data := .fields (#[] ++ more) } := hok' T _ hm
      have same : ∀ b o, b ≠ T → s₁.heap.get? b = some o → s'.heap.get? b = some o := by
        intro b o nb e
        cases q : heap0 K T a vs ns b with
        | none => exact un.keep b o e q (fun y => absurd (show b ∈ ([] : List Addr) from y) (by simp)) (by simp)
        | some u =>
          rcases heap0_some q with ⟨y, _⟩ | ⟨rfl, _, rfl⟩
          · exact absurd y nb
          · obtain ⟨e2, _⟩ := hok' _ _ (un.frzs _ _ _ q)
            rw [ha] at e
            rw [e2, e]
      refine ⟨rfl, ⟨fun b o e => ?_, fun b o e => ?_⟩, osEq, bareEq⟩
      · by_cases nb : b = T
        · subst nb
          rw [tabT] at e
          cases e
          exact .inr (.inl ⟨(C.tab tabT).isCodeTable, rfl, #[], more, rfl, tabE⟩)
        · exact .inl (same b o nb e)
      · by_cases nb : b = T
        · exact ⟨_, by rw [nb]; exact tabE⟩
        · exact ⟨o, same b o nb e⟩
end
/-- what the head tells of the law -/
def LawG (l : PySem.W.OpenLaw) (w : World) (K : PySem.W.Frag) (CX : CXT) (k n : Nat) (x : Str) (mg : Str → Option Value) (fa : Addr) (h : Heap) : Prop :=
  ∃ (fd : FuncData) (c T : Addr) (sp : Sp), h.get? T = some { cls := .none, data := .fields #[] } ∧ K.lookup T = none ∧ PySem.W.CodeHd h c T ∧ (∀ (s : Shared) (u : Value), BindsTo s fd ⟨[u], []⟩ [(x, u)]) ∧
    (∀ (H : Hp) (a : Addr) (ns : List Int), ns.length ≤ n → H T = some (.tbl #[]) → SqL K H a (ns.map V.int) → sp [.ref a] H (fun v _ => v = .bl true) fun _ _ _ => False) ∧
    ∀ base : Heap, K.In base → base.Ns mainGlobals mg → LamX.TabB base mg c T → RunG l.prog w K mg base CX k fa fd [x] sp
theorem walk_ofG {l : PySem.W.OpenLaw} {n k : Nat} {q : Program} {loose : List Str} {XP : (Str → Option Value) → Heap → Prop} {YP : World → Heap → Prop} {d : DefRec} {CX : World → CXT} {x : Str}
    (mostN : l.most = some n) (mostLe : n ≤ sizeLine) (noDfl : d.params.defaults = []) (room : Room k callerA)
    (F : ∀ (w : World) (mg : Str → Option Value) (fa : Addr) (h : Heap), YP w h → h.Ns mainGlobals mg → mg d.name = some (.ref fa) → ∃ K : PySem.W.Frag, K.In h ∧ LawG l w K (CX w) k n x mg fa h)
    (noExc : ∀ (w : World) (H : Hp) (s : Shared) (e : Value) (s' : Shared), CX w [] H s (fun _ _ _ => False) e s' → False) :
    PySem.W.WalkO q loose XP YP l.row.toRowW d [] (fun (f : Value) (vs : List Value) => PySem.call f vs) := by
  refine Att.attach_callB mostN noDfl fun w _ s₁ mg _ fa _ _ _ _ a vs ns G Y _ _ _ hmg hobj hints hlen _ hgens => ?_
  obtain ⟨K, kin0, fd, c, T, sp, h1, h2, h3, h4, h5, h6⟩ := F w mg fa _ Y G.T.g hmg
  exact law_callG kin0 G.T.g G.T.b G.T.builtins G.T.nolimit hgens h1 h2 h3 G.T.bmain hobj hints (Nat.le_trans hlen mostLe) room h6 h4 (fun H hH hS => h5 H a ns hlen hH hS) fun H e s' => noExc w H s₁ e s'
end Wk
end

section
set_option Elab.async false
set_option linter.all false
set_option maxRecDepth 100000
set_option maxHeartbeats 2000000
/-! what the law itself needs: what stays, what is told as data, the least of some lots -/
namespace Wk
open PySem PySem.Spec PyProof.Rows L2 Evl Rk
/-! ### what stays -/
theorem tabs_deck {T : Tb} {d sc : Addr} {H H' : Hp} (dk : DeckAt d sc H) (e : Ex (rm H d) H') (t : LamX.Tabs T H) : LamX.Tabs T H' := fun p hp => by
  obtain ⟨ps, h1, h2, h3⟩ := t p hp
  obtain ⟨_, _, _, _, _, hd, _⟩ := dk
  refine ⟨ps, dkeep e h1 (fun z => ?_), h2, fun pos cv hc => ?_⟩
  · rw [z, hd] at h1
    cases h1
  · obtain ⟨c, e1, e2⟩ := h3 pos cv hc
    refine ⟨c, e1, dkeep e e2 fun z => ?_⟩
    rw [z, hd] at e2
    cases e2
theorem DeckAt.n {d sc : Addr} {H H' : Hp} (e : LamX.ExtN H H') (h : DeckAt d sc H) : DeckAt d sc H' := by
  obtain ⟨cells, i, b, t, sd, h1, h2, h3⟩ := h
  exact ⟨cells, i, b, t, sd, e _ _ h1 (fun _ z => by cases z), e _ _ h2 (fun _ z => by cases z), h3⟩
theorem ext_n {H H' : Hp} (e : LamX.ExtN H H') : ExT H H' := fun a o h i => e a o h fun q z => by
  rw [z] at i
  cases i
theorem WebAt.n' {C : Addr} {W : Wb} {v : V} {H H' : Hp} (e : LamX.ExtN H H') (h : WebAt C W v H) : WebAt C W v H' := by
  obtain ⟨x, dx, a, h1, h2, h3⟩ := h
  exact ⟨x, dx, a, h1, e _ _ h2 (fun _ z => by cases z), h3.t (ext_n e)⟩
theorem OptLot.deck {d sc : Addr} {o : Option (List Nat)} {v : V} {H H' : Hp} (dk : DeckAt d sc H) (e : Ex (rm H d) H') (h : OptLot o v H) : OptLot o v H' := OptLot.t (dk.t e) h
theorem dT_deck {d sc D : Addr} {kvs : List (List Key × V)} {H H' : Hp} (dk : DeckAt d sc H) (e : Ex (rm H d) H') (h : H D = some (.dT kvs)) : H' D = some (.dT kvs) := by
  obtain ⟨_, _, _, _, _, hd, _⟩ := dk
  refine dkeep e h fun z => ?_
  rw [z, hd] at h
  cases h
theorem ex_unlock {H H9 : Hp} {D : Addr} {u : HO} {od : Obj} (hD : H D = some u) (e : Ex (upd H D (.frz od u)) H9) : Ex H (upd H9 D u) := fun b o hb => by
  by_cases z : b = D
  · rw [z] at hb ⊢
    rw [hD] at hb
    rw [← hb]
    exact upd_same
  · rw [upd_ne z]
    exact e b o (by rw [upd_ne z]; exact hb)
section
variable {K : PySem.W.Frag} {W : Wb} {σ : L2.St} {H : Hp}
theorem dget_lotR {H : Hp} {D : Addr} {f : List Nat → Bool} {ls : List (List Nat)} {s : List Nat} {v : V} (hD : Rd H D (.dT (dl f ls))) (hv : LotAt s v H) (hs : s ∈ ls) : DGet H D v (some (.bl (f s))) := by
  obtain ⟨b, rfl, hb⟩ := hv
  exact .inr ⟨_, kl s, b, hD, rfl, by rw [kl_v]; exact hb, (dl_get hs).symm⟩
/-! ### the safe lots with their sizes -/
def SomeAt (W : Wb) (l : List Nat) (y : V) (H : Hp) : Prop := ∃ q a, y = .ref q ∧ H q = some (.tup [.int (W.size l), nV l.length, .ref a]) ∧ H a = some (.tup (l.map nV))
theorem SomeAt.t {l : List Nat} {y : V} {H H' : Hp} (e : ExT H H') (h : SomeAt W l y H) : SomeAt W l y H' := by
  obtain ⟨q, a, h1, h2, h3⟩ := h
  exact ⟨q, a, h1, e _ _ h2 rfl, e _ _ h3 rfl⟩
theorem dpAll_n : ∀ l : List Nat, DpAll K H (l.map nV) (Mth.dI l)
  | [] => .nil
  | i :: l => .cons (.int (i : Int)) (dpAll_n l)
theorem dp_lot {l : List Nat} {v : V} (h : LotAt l v H) : Dp K H v (.tuple (Mth.dI l)) := by
  obtain ⟨a, rfl, h⟩ := h
  exact .tup (SqT.of h) (dpAll_n l)
theorem SomeAt.dp {l : List Nat} {y : V} (h : SomeAt W l y H) : Dp K H y (Mth.d3 W.size l) := by
  obtain ⟨q, a, rfl, h2, h3⟩ := h
  exact .tup (SqT.of h2) (.cons (.int _) (.cons (.int _) (.cons (dp_lot ⟨a, rfl, h3⟩) .nil)))
theorem some_all : ∀ {ls : List (List Nat)} {ys : List V}, Paired (fun l y => SomeAt W l y H) ls ys → DpAll K H ys (ls.map (Mth.d3 W.size))
  | _, _, .nil => .nil
  | _, _, .cons h t => .cons h.dp (some_all t)
theorem evp_some {t1 t2 t3 : TE} {l : List Nat} {v : V} (h1 : Ev t1 σ H (.int (W.size l))) (h2 : Ev t2 σ H (nV l.length)) (h3 : Ev t3 σ H v) (hv : LotAt l v H) : EvP (tTup (tCons t1 (tCons t2 (tCons t3 tNil)))) σ H (SomeAt W l) := fun H1 e1 Q r =>
  eu_tup (ea_cons h1 (ea_cons h2 (ea_cons h3 ea_nil))) (by show 3 ≤ 100000; decide) H1 e1 Q fun p H2 np e2 hp => r _ _ e2 fun H3 e3 => by
    obtain ⟨a, rfl, ha⟩ := hv
    exact ⟨p, a, rfl, e3 _ _ hp, e3 _ _ (e2 _ _ (e1 _ _ ha))⟩
theorem min_some {S : List (List Nat)} {ys : List V} {Dl : Addr} {l : List Nat} {Q : VK} (hDl : H Dl = some (.lst ys)) (hp : Paired (fun s y => SomeAt W s y H) S ys) (hm : l ∈ S) (hlt : ∀ s, s ∈ S → s ≠ l → Mth.ltK W.size l s) (q : ∀ y, SomeAt W l y H → Q y H) : rMinD K [.ref Dl] H Q := by
  cases S with
  | nil => cases hm
  | cons x xs =>
    have al : PySem.W.AlikeAll ((x :: xs).map (Mth.d3 W.size)) := Mth.alike_d3s W.size (x :: xs)
    have dpt := Mth.depth_d3s W.size (x :: xs)
    have hda : DpAll K H ys ((x :: xs).map (Mth.d3 W.size)) := some_all hp
    rw [List.map_cons] at al dpt hda
    refine ⟨Dl, ys, Mth.d3 W.size x, xs.map (Mth.d3 W.size), rfl, SqL.of hDl, hda, al, by omega, fun i y hy hd => ?_⟩
    rw [Mth.min_fold xs x hlt hm, ← List.map_cons, List.getElem?_map] at hd
    obtain ⟨s, hs, hsy⟩ := pget2 hp hy
    rw [hs] at hd
    have e : s = l := Mth.d3_inj (Option.some.inj hd)
    rw [e] at hsy
    exact q y hsy
theorem evp_min2 {te : TE} {S : List (List Nat)} {ys : List V} {Dl : Addr} {l : List Nat} (h : Ev te σ H (.ref Dl)) (hDl : H Dl = some (.lst ys)) (hp : Paired (fun s y => SomeAt W s y H) S ys) (hm : l ∈ S) (hlt : ∀ s, s ∈ S → s ≠ l → Mth.ltK W.size l s) : EvP (tOp (rIxT K) (tCB (rMinD K) (tCons te tNil)) (tC (.int 2))) σ H (LotAt l) := fun H1 e1 Q r =>
  h H1 e1 _ fun H2 e2 => min_some (Q := fun x H3 => rIxT K x (.int 2) H3 Q) ((e1.trans e2) _ _ hDl) (hp.mono fun _ _ q => q.t (Ex.t (e1.trans e2))) hm hlt fun y hy => by
    obtain ⟨q, a', rfl, hq, ha'⟩ := hy
    exact ⟨q, _, 2, _, rfl, rfl, SqT.of hq, atI_nat (j := 2) rfl, r _ _ e2 (LotAt.sta ⟨a', rfl, ha'⟩)⟩
/-! ### what is told, as data -/
def lotD : Option (List Nat) → PyData
  | none => .none
  | some l => .tuple (Mth.dI l)
def toldD (o : Option (List Nat)) : PyData := .tuple [.str "told", lotD o]
theorem dp_opt {o : Option (List Nat)} {x : V} (h : OptLot o x H) : Dp K H x (lotD o) := by
  cases o with
  | none =>
    rw [show x = .non from h]
    exact .non
  | some l => exact dp_lot h
def DP (K : PySem.W.Frag) (d : PyData) (v : V) (H : Hp) : Prop := ∃ a, v = .ref a ∧ Dp K H (.ref a) d
theorem told_dp {o : Option (List Nat)} {p : Addr} {x : V} (hp : H p = some (.tup [.str "told", x])) (h : OptLot o x H) : DP K (toldD o) (.ref p) H := ⟨p, rfl, .tup (SqT.of hp) (.cons (.str _) (.cons (dp_opt h) .nil))⟩
theorem told_depth (o : Option (List Nat)) : (toldD o).depth ≤ 4 := by
  cases o with
  | none => simp [toldD, lotD, PyData.depth, PyData.depthAll]
  | some l =>
    have h := Mth.depth_dI l
    simp [toldD, lotD, PyData.depth, PyData.depthAll, h]
theorem lay_dI : ∀ l : List Nat, PyData.canLayAll0 (Mth.dI l) = true
  | [] => by simp [Mth.dI, PyData.canLayAll0]
  | i :: l => by
    have ih := lay_dI l
    unfold Mth.dI at ih ⊢
    simp [PyData.canLayAll0, PyData.canLay0, ih]
theorem told_lay (o : Option (List Nat)) : (toldD o).canLay0 = true := by
  cases o with
  | none =>
    simp only [toldD, lotD, PyData.canLay0, PyData.canLayAll0, Bool.and_true]
    decide +kernel
  | some l =>
    have h := lay_dI l
    simp only [toldD, lotD, PyData.canLay0, PyData.canLayAll0, h, Bool.and_true]
    decide +kernel
theorem told_shaped (o : Option (List Nat)) : SeqAt.shaped (toldD o) = true := by
  unfold SeqAt.shaped
  rw [told_lay, decide_eq_true (show (toldD o).depth ≤ 64 from Nat.le_trans (told_depth o) (by decide))]
  rfl
theorem told_eqv (o : Option (List Nat)) : PyData.eqv (toldD o) (toldD o) = true := by
  refine PySem.W.eqv_refl_alike _ ?_
  cases o with
  | none => simp [toldD, lotD, PySem.W.alike, PySem.W.alikeAll]
  | some l =>
    have h := Mth.alike_dI l l
    simp [toldD, lotD, PySem.W.alike, PySem.W.alikeAll, h]
theorem told_nodict (o : Option (List Nat)) : (toldD o).hasDict = false := PyData.hasDict_of_canLay _ (told_lay o)
theorem small_int {i : Nat} (h : i < 12) : ((i : Int).natAbs).log2 < 1920 := by
  have e : ((i : Int).natAbs) = i := Int.natAbs_natCast i
  rw [e]
  by_cases z : i = 0
  · rw [z]
    decide
  · have := (Nat.log2_lt z (k := 4)).mpr (by omega)
    omega
theorem show_dI : ∀ l : List Nat, (∀ i, i ∈ l → i < 12) → PyData.showableAll (Mth.dI l) = true
  | [], _ => by simp [Mth.dI, PyData.showableAll]
  | i :: l, h => by
    have ih := show_dI l fun j hj => h j (List.mem_cons_of_mem _ hj)
    have h1 := small_int (h i List.mem_cons_self)
    unfold Mth.dI at ih ⊢
    simp only [List.map_cons, PyData.showableAll, PyData.showable, ih, Bool.and_true]
    exact decide_eq_true h1
def Small : Option (List Nat) → Prop
  | none => True
  | some l => l.length ≤ 12 ∧ ∀ i, i ∈ l → i < 12
theorem told_show {o : Option (List Nat)} (h : Small o) : (toldD o).showable = true := by
  cases o with
  | none => simp [toldD, lotD, PyData.showable, PyData.showableAll]
  | some l =>
    have h := show_dI l h.2
    simp [toldD, lotD, PyData.showable, PyData.showableAll, h]
theorem len_dI : ∀ l : List Nat, (∀ i, i ∈ l → i < 12) → ((PyData.shownAll (Mth.dI l)).map (·.length)).sum ≤ 13 * l.length ∧ (PyData.shownAll (Mth.dI l)).length = l.length
  | [], _ => by simp [Mth.dI, PyData.shownAll]
  | i :: l, h => by
    have ih := len_dI l fun j hj => h j (List.mem_cons_of_mem _ hj)
    have h1 := PyData.shown_int_le (i := (i : Int)) (by have := h i List.mem_cons_self; omega)
    unfold Mth.dI at ih ⊢
    simp only [List.map_cons, PyData.shownAll, List.sum_cons, List.length_cons]
    omega
theorem told_len {o : Option (List Nat)} (h : Small o) : (toldD o).shown.length ≤ sizeLine := by
  have hs : (reprText "told").length ≤ 1000 := by decide +kernel
  cases o with
  | none =>
    have q := tupleText_len_le [reprText "told", "None"]
    have e : (toldD none).shown = tupleText [reprText "told", "None"] := by simp [toldD, lotD, PyData.shown, PyData.shownAll]
    have h4 : ((("None" : String) : Str)).length ≤ 1000 := by decide +kernel
    rw [e, sizeLine_eq]
    simp only [List.map_cons, List.map_nil, List.sum_cons, List.sum_nil, List.length_cons, List.length_nil] at q
    omega
  | some l =>
    obtain ⟨l1, l2⟩ := len_dI l h.2
    have q1 := tupleText_len_le (PyData.shownAll (Mth.dI l))
    have q := tupleText_len_le [reprText "told", tupleText (PyData.shownAll (Mth.dI l))]
    have e : (toldD (some l)).shown = tupleText [reprText "told", tupleText (PyData.shownAll (Mth.dI l))] := by simp [toldD, lotD, PyData.shown, PyData.shownAll]
    have hl := h.1
    rw [e, sizeLine_eq]
    simp only [List.map_cons, List.map_nil, List.sum_cons, List.sum_nil, List.length_cons, List.length_nil] at q
    omega
theorem evp_toldD {o : Option (List Nat)} {i : Nat} {dv : V} (h : σ[i]? = some (some dv)) (ho : OptLot o dv H) : EvP (tTup (tCons (tC (.str "told")) (tCons (tVar i) tNil))) σ H (DP K (toldD o)) := fun H1 e1 Q r =>
  eu_tup (vs := [.str "told", dv]) (ea_cons ev_c (ea_cons (ev_var h) ea_nil)) (by show 2 ≤ 100000; decide) H1 e1 Q fun p H2 np e2 hp => r _ _ e2 fun H3 e3 => told_dp (e3 _ _ hp) (OptLot.t (Ex.t ((e1.trans e2).trans e3)) ho)
theorem evp_toldV {o : Option (List Nat)} {i : Nat} {p : Addr} {x : V} (h : σ[i]? = some (some (.ref p))) (hp : H p = some (.tup [.str "told", x])) (ho : OptLot o x H) : EvP (tVar i) σ H (DP K (toldD o)) :=
  evp_of (ev_var h) fun H' e => told_dp (e _ _ hp) (OptLot.t (Ex.t e) ho)
theorem ev_neD {ta tb : TE} {d : PyData} (ha : EvP ta σ H (DP K d)) (hb : EvP tb σ H (DP K d)) (sh : SeqAt.shaped d = true) (he : PyData.eqv d d = true) : Ev (tOp (rNeD K) ta tb) σ H (.bl false) := fun H1 e1 Q q => ha H1 e1 _ fun v H2 e2 pv => hb H2 (e1.trans e2) _ fun u H3 e3 pu => by
  obtain ⟨a, rfl, h1⟩ := (pv.on e3).now
  obtain ⟨b, rfl, h2⟩ := pu.now
  refine ⟨d, d, h1, h2, sh, sh, ?_⟩
  rw [he]
  exact q _ (e2.trans e3)
theorem ev_repr {te : TE} {d : PyData} (h : EvP te σ H (DP K d)) (h1 : d.showable = true) (h2 : d.hasDict = false) (h3 : d.depth ≤ 16) (h4 : d.shown.length ≤ sizeLine) : Ev (tCB (rReprD K) (tCons te tNil)) σ H (.str d.shown) := fun H1 e1 Q q => h H1 e1 _ fun v H2 e2 pv => by
  obtain ⟨a, rfl, hd⟩ := pv.now
  exact ⟨a, d, rfl, hd, h1, h2, h3, h4, q H2 e2⟩
/-- x = [e for s in d if t], d a locked dict of lots -/
theorem s_keysAsg {t0 te : TE} {tt : TT} {j i : Nat} {own : List Nat} {Dn : Ends} {d : Addr} {od : Obj} {f : List Nat → Bool} {ls : List (List Nat)} (h0 : Ev t0 σ H (.ref d)) (hd : H d = some (.frz od (.dT (dl f ls)))) (g : List Nat → Bool) (P : List Nat → V → Hp → Prop) (hP : ∀ a y H H', ExT H H' → P a y H → P a y H') (hl : ls.length ≤ 16000000)
    (hw : ∀ x, wipe ((wipe σ own).set j (some x)) own = wipe σ own) (ht : ∀ s v H1, Ex H H1 → s ∈ ls → LotAt s v H1 → EvT tt ((wipe σ own).set j (some v)) H1 (g s))
    (he : ∀ s v H1, Ex H H1 → s ∈ ls → LotAt s v H1 → g s = true → EvP te ((wipe σ own).set j (some v)) H1 (P s))
    (k : ∀ D ys H', Ex H H' → H D = none → H' D = some (.lst ys) → Paired (fun a y => P a y H') (ls.filter g) ys → Dn.nx (σ.set i (some (.ref D))) H') : tAsg (tLc (iKeys t0) (gName j) tt te own) (gName i) Dn σ H :=
  h0 H (Ex.refl H) _ fun H1 e1 => ⟨d, od, rfl, .inr ⟨_, e1 _ _ hd, lc_keysT (Q := fun x H2 => gName i x σ H2 Dn.nx) (e1 _ _ hd) P hP hl hw (fun s v H2 e2 hs hv => ht s v H2 (e1.trans e2) hs hv) (fun s v H2 e2 hs hv hb => he s v H2 (e1.trans e2) hs hv hb) fun D ys H2 nD e2 hD hp => k D ys H2 (e1.trans e2) (fresh_back e1 nD) hD hp⟩⟩
/-! ### what is due -/
def DueO (W : Wb) (k : Nat) (ls : List (List Nat)) : Option (List Nat) → Prop
  | none => Mth.safes W.F (min k W.ps.length) ls = []
  | some l => Mth.Due W.F W.ps.length k W.size ls l
theorem due_is {W : Wb} {k : Nat} {ls : List (List Nat)} (pm : ls.Perm (Mth.subsF (List.range W.ps.length))) {o o' : Option (List Nat)} (h : DueO W k ls o) (h' : LightR W (k : Int) o') : o' = o := by
  have hm := Wb.F_mono W
  cases o' with
  | none =>
    have hn : Mth.safes W.F (min k W.ps.length) ls = [] := Mth.due_none hm pm h'
    cases o with
    | none => rfl
    | some l =>
      have q := h.mem
      rw [hn] at q
      cases q
  | some l' =>
    obtain ⟨m, h1, rest, h2⟩ := h'
    have hd : Mth.Due W.F W.ps.length k W.size ls l' := Mth.due_some hm pm h1 h2
    cases o with
    | none =>
      have q := hd.mem
      rw [show Mth.safes W.F (min k W.ps.length) ls = [] from h] at q
      cases q
    | some l => rw [Mth.due_one hd h]
theorem due_sub {W : Wb} {k : Nat} {ls : List (List Nat)} {l : List Nat} (pm : ls.Perm (Mth.subsF (List.range W.ps.length))) (h : Mth.Due W.F W.ps.length k W.size ls l) : l.Sublist (List.range W.ps.length) := by
  have q := (List.mem_filter.mp h.mem).1
  rw [pm.mem_iff, Mth.mem_subsF] at q
  exact q
theorem sub_len {n : Nat} {l : List Nat} (h : l.Sublist (List.range n)) : l.length ≤ n := by
  have q := h.length_le
  rw [List.length_range] at q
  exact q
theorem sub_ok {W : Wb} {l : List Nat} (h : l.Sublist (List.range W.ps.length)) : LotOk W l := ⟨fun i hi => List.mem_range.mp (h.subset hi), List.pairwise_lt_range.sublist h⟩
theorem due_small {W : Wb} {k : Nat} {ls : List (List Nat)} {o : Option (List Nat)} (pm : ls.Perm (Mth.subsF (List.range W.ps.length))) (w12 : W.ps.length ≤ 12) (h : DueO W k ls o) : Small o := by
  cases o with
  | none => trivial
  | some l =>
    have q := due_sub pm h
    have q2 := sub_len q
    exact ⟨by omega, fun i hi => by have := List.mem_range.mp (q.subset hi); omega⟩
theorem rv_notN {H : Hp} {x : V} : RV rNotN x .non H (.bl (!decide (x = .non))) := fun H1 _ _ q => ⟨rfl, q H1 (Ex.refl H1)⟩
/-! ### drawn numbers, slices -/
theorem k_at {x y : Int} (x0 : 0 ≤ x) (x1 : x < 13) (y0 : 0 ≤ y) (y1 : y < 7) : ∃ k : Nat, atI [V.int 0, V.int 1, V.int 1, V.int 2, V.int 2, V.int 3, V.int x] y = some (nV k) ∧ k ≤ 12 := by
  have h : y = 0 ∨ y = 1 ∨ y = 2 ∨ y = 3 ∨ y = 4 ∨ y = 5 ∨ y = 6 := by omega
  rcases h with rfl | rfl | rfl | rfl | rfl | rfl | rfl
  · exact ⟨0, rfl, by decide⟩
  · exact ⟨1, rfl, by decide⟩
  · exact ⟨1, rfl, by decide⟩
  · exact ⟨2, rfl, by decide⟩
  · exact ⟨2, rfl, by decide⟩
  · exact ⟨3, rfl, by decide⟩
  · refine ⟨x.toNat, ?_, by omega⟩
    have e : ((x.toNat : Nat) : Int) = x := Int.toNat_of_nonneg x0
    show some (V.int x) = some (V.int ((x.toNat : Nat) : Int))
    rw [e]
theorem cut9 (l : List Nat) : cutV (l.map nV) none (some 9) = (l.take 9).map nV := by
  unfold cutV
  rw [HT.sIx_none, show HT.sIx (l.map nV).length (l.map nV).length (some 9) = min 9 (l.map nV).length from HT.sIx_nat _ _ 9, List.drop_zero, Nat.sub_zero, List.map_take]
  by_cases h : 9 ≤ (l.map nV).length
  · rw [Nat.min_eq_left h]
  · rw [Nat.min_eq_right (by omega), List.take_length, List.take_of_length_le (by omega)]
theorem sl9 {l : List Nat} {v : V} {H : Hp} {Q : VK} (hl : LotAt l v H) (q : ∀ v' H3, Ex H H3 → LotAt (l.take 9) v' H3 → Q v' H3) : rSlA K v none (some 9) H Q := by
  obtain ⟨a, rfl, ha⟩ := hl
  refine ⟨a, l.map nV, rfl, SqT.of ha, fun hw => q _ _ (Ex.refl _) ⟨a, rfl, ?_⟩, fun _ p hp => q _ _ (Ex.new hp) ⟨p, rfl, ?_⟩⟩
  · rw [← cut9]
    unfold cutV
    rw [hw.1, hw.2, List.drop_zero, Nat.sub_zero, List.take_length]
    exact ha
  · rw [upd_same, cut9]
end
end Wk
end

section
set_option Elab.async false
set_option linter.all false
set_option maxRecDepth 100000
set_option maxHeartbeats 4000000
namespace Wk
open PySem PySem.Spec PyProof.Rows L2 Evl Rk
section
variable {K : PySem.W.Frag} {base : Heap} {mg : Str → Option Value} {P : Program} {w : World}
def sp_law (K : PySem.W.Frag) (T : Tb) : Sp := fun vs H Q _ => ∃ (a : Addr) (ns : List Int), vs = [.ref a] ∧ SqL K H a (ns.map V.int) ∧ ns.length ≤ 1000 ∧ LamX.Tabs T H ∧ ∀ H', Q (.bl true) H'
theorem ok_law (E : Env K mg) (TM : Tm.Txt P K mg E.CM E.fM) (TX : ToldX K mg E.CK E.CL E.CN E.CM) {T : Tb} {c Pt : Addr} (LT : LamT E base c Pt) (hmT : (Pt, lamQ) ∈ T) (huT : ∀ p ∈ T, p.1 = Pt → p.2 = lamQ) :
    RunG P w K mg base CX0 15 E.d_law.f E.d_law.fd ["_law_script"] (sp_law K T) := by
  refine FunD.okG E.d_law.F sc_law (fun vs H Q E h => ?_) (fun A cdv outer s H vs Q E' hg hr h => ?_)
  · obtain ⟨a, ns, rfl, _⟩ := h
    rfl
  · obtain ⟨a, ns, rfl, ha, hn, hT, kq⟩ := h
    refine ⟨_, ?_, PSs.nox (pss_cons (ps_set (i := 1) sc_law.nd rfl (by first | exact Or.inl rfl | exact Or.inr rfl) (pe_call (ok__law_deck E) (hr.mono (by decide)) rfl E.d__law_deck.g E.d__law_deck.F.kp E.d__law_deck.b .nil pass0 (pa_cons (pv 0) pa_nil))) (pss_cons (ps_set (i := 2) sc_law.nd rfl (by first | exact Or.inl rfl | exact Or.inr rfl) (pe_call (ok__law_web E) (hr.mono (by decide)) rfl E.d__law_web.g E.d__law_web.F.kp E.d__law_web.b .nil pass0 (pa_cons (pv 1) (pa_cons pe_int (pa_cons pe_int pa_nil))))) (pss_cons (ps_set (i := 3) sc_law.nd rfl (by first | exact Or.inl rfl | exact Or.inr rfl) (pe_ix ix_list (pe_lst (pa_cons pe_int (pa_cons pe_int (pa_cons pe_int (pa_cons pe_int (pa_cons pe_int (pa_cons pe_int (pa_cons (pe_call (ok__law_draw E) (hr.mono (by decide)) rfl E.d__law_draw.g E.d__law_draw.F.kp E.d__law_draw.b .nil pass0 (pa_cons (pv 1) (pa_cons pe_int pa_nil))) pa_nil)))))))) (pe_call (ok__law_draw E) (hr.mono (by decide)) rfl E.d__law_draw.g E.d__law_draw.F.kp E.d__law_draw.b .nil pass0 (pa_cons (pv 1) (pa_cons pe_int pa_nil))) (fun _ _ => rfl))) (pss_cons (ps_set (i := 4) sc_law.nd rfl (by first | exact Or.inl rfl | exact Or.inr rfl) pe_int) (pss_cut (ps_if (pt_cmpR op_eq (pe_call (ok__law_draw E) (hr.mono (by decide)) rfl E.d__law_draw.g E.d__law_draw.F.kp E.d__law_draw.b .nil pass0 (pa_cons (pv 1) (pa_cons pe_int pa_nil))) pe_int (nomark _)) (pss_cons (ps_set (i := 2) sc_law.nd rfl (by first | exact Or.inl rfl | exact Or.inr rfl) (pe_call (ok__law_large E) (hr.mono (by decide)) rfl E.d__law_large.g E.d__law_large.F.kp E.d__law_large.b .nil pass0 (pa_cons (pv 1) (pa_cons (pv 2) pa_nil)))) (pss_cons (ps_set (i := 3) sc_law.nd rfl (by first | exact Or.inl rfl | exact Or.inr rfl) (pe_callB (call_min2 rfl) (by rfl) E.f_min (by decide +kernel) (pa_cons (pv 3) (pa_cons pe_int pa_nil)))) (pss_one (ps_set (i := 4) sc_law.nd rfl (by first | exact Or.inl rfl | exact Or.inr rfl) pe_int)))) pss_nil) (pss_cons (ps_set (i := 5) sc_law.nd rfl (by first | exact Or.inl rfl | exact Or.inr rfl) (pe_make E.mk_Web (ok_Web_init E) (hr.mono (by decide)) rfl E.g_Web E.i_Web.b .nil pass0 (pa_cons (pe_ix ix_tup (pv 2) pe_int (fun _ _ => rfl)) (pa_cons (pe_ix ix_tup (pv 2) pe_int (fun _ _ => rfl)) (pa_cons (pe_ix ix_tup (pv 2) pe_int (fun _ _ => rfl)) pa_nil))))) (pss_cons (ps_set (i := 6) sc_law.nd rfl (by first | exact Or.inl rfl | exact Or.inr rfl) (pe_callB call_len_seq (by rfl) E.f_len (by decide +kernel) (pa_cons (pe_ix ix_tup (pv 2) pe_int (fun _ _ => rfl)) pa_nil))) (pss_cons (ps_set (i := 7) sc_law.nd rfl (by first | exact Or.inl rfl | exact Or.inr rfl) (pe_call (ok__law_safe_lots E LT hmT huT) (hr.mono (by decide)) rfl E.d__law_safe_lots.g E.d__law_safe_lots.F.kp E.d__law_safe_lots.b .nil pass0 (pa_cons (pv 2) (pa_cons (pv 3) pa_nil)))) (pss_cons (ps_lock (ps_setLc (i := 8) (own := [("_law_lot_here", 9)]) (g := gName 9) rfl sc_law.nd rfl rfl (sw_true rfl rfl rfl (by decide +kernel)) (pi_keys (pv 7)) (blkOk_by (N := n_law) (sc := defScope s_law) (by decide +kernel)) (fun _ _ _ _ _ => (pg_name (i := 9) sc_law.nd rfl (by first | exact Or.inl rfl | exact Or.inr rfl))) (fun _ _ _ _ _ => (pts_one (pt_val (pe_dget (hu_of hr) (pv 7) (pv 9) (fun _ _ => rfl))))) (fun _ _ _ _ _ => (pe_tup (pa_cons (pe_call (ok__law_size E) (hr.mono (by decide)) rfl E.d__law_size.g E.d__law_size.F.kp E.d__law_size.b .nil pass0 (pa_cons (pv 2) (pa_cons (pv 9) pa_nil))) (pa_cons (pe_callB (kx_len (K := K) (by rfl)) (by rfl) E.f_len (by decide +kernel) (pa_cons (pv 9) pa_nil)) (pa_cons (pv 9) pa_nil))))))) (pss_cons (ps_set (i := 10) sc_law.nd rfl (by first | exact Or.inl rfl | exact Or.inr rfl) pe_non) (pss_cut (ps_if (pt_cmpR op_gt (pe_callB call_len_seq (by rfl) E.f_len (by decide +kernel) (pa_cons (pv 8) pa_nil)) pe_int (nomark _)) (pss_one (ps_set (i := 10) sc_law.nd rfl (by first | exact Or.inl rfl | exact Or.inr rfl) (pe_ix ix_tup (pe_callB (cr_minD rfl hr.units) (by rfl) E.f_min (by decide +kernel) (pa_cons (pv 8) pa_nil)) pe_int (fun _ _ => rfl)))) pss_nil) (pss_cons (ps_set (i := 11) sc_law.nd rfl (by first | exact Or.inl rfl | exact Or.inr rfl) (pe_call (ok__law_told E TM TX) (hr.mono (by decide)) rfl E.d__law_told.g E.d__law_told.F.kp E.d__law_told.b .nil pass0 (pa_cons (pv 5) (pa_cons pe_non (pa_cons (pv 3) pa_nil))))) (pss_cons (ps_if (PW.pt (pw_or (pt_cmpR (op_neD hr.units) (pv 11) (pe_tup (pa_cons pe_str (pa_cons (pv 10) pa_nil))) (nomark _)) (pw_or1 (pt_cmpR op_ne (pe_callB (cr_reprD hg hr.units) (by rfl) E.f_repr (by decide +kernel) (pa_cons (pv 11) pa_nil)) (pe_callB (cr_reprD hg hr.units) (by rfl) E.f_repr (by decide +kernel) (pa_cons (pe_tup (pa_cons pe_str (pa_cons (pv 10) pa_nil))) pa_nil)) (nomark _))))) (pss_one (ps_ret pe_bl)) pss_nil) (pss_cons (ps_for PassesOwn.never rfl (pi_range1 rfl E.f_range (pa_cons (pv 4) pa_nil)) (pg_name (i := 12) sc_law.nd rfl (by first | exact Or.inl rfl | exact Or.inr rfl)) (pss_cons (ps_set (i := 9) sc_law.nd rfl (by first | exact Or.inl rfl | exact Or.inr rfl) (pe_slice sl_tupA (pe_call (ok__law_lot E) (hr.mono (by decide)) rfl E.d__law_lot.g E.d__law_lot.F.kp E.d__law_lot.b .nil pass0 (pa_cons (pv 1) (pa_cons (pv 6) (pa_cons (pe_ix ix_list (pe_lst (pa_cons pe_int (pa_cons pe_int (pa_cons pe_int pa_nil)))) (pe_call (ok__law_draw E) (hr.mono (by decide)) rfl E.d__law_draw.g E.d__law_draw.F.kp E.d__law_draw.b .nil pass0 (pa_cons (pv 1) (pa_cons pe_int pa_nil))) (fun _ _ => rfl)) pa_nil)))) po_none (po_some pe_int))) (pss_cut (ps_if (PW.pt (pw_and (pt_cmpR op_eq (pv 12) (pe_op op_sub (pv 4) pe_int) (nomark _)) (pw_and1 (pt_cmpR op_notN1 (pv 10) pe_non (nomark _))))) (pss_one (ps_set (i := 9) sc_law.nd rfl (by first | exact Or.inl rfl | exact Or.inr rfl) (pv 10))) pss_nil) (pss_cons (ps_set (i := 13) sc_law.nd rfl (by first | exact Or.inl rfl | exact Or.inr rfl) (pe_call (ok__law_told E TM TX) (hr.mono (by decide)) rfl E.d__law_told.g E.d__law_told.F.kp E.d__law_told.b .nil pass0 (pa_cons (pv 5) (pa_cons (pv 9) (pa_cons (pv 3) pa_nil))))) (pss_one (ps_if (PW.pt (pw_or (pt_cmpR (op_neD hr.units) (pv 13) (pe_tup (pa_cons pe_str (pa_cons (pe_dget (hu_of hr) (pv 7) (pv 9) (fun _ _ => rfl)) pa_nil))) (nomark _)) (pw_or1 (pt_not (pt_val (pe_callB call_isi (by rfl) E.f_isinstance (by decide +kernel) (pa_cons (pe_ix ix_tup (pv 13) pe_int (fun _ _ => rfl)) (pa_cons (pe_bltn (v := .ty "bool") rfl E.f_bool (by decide +kernel) rfl) pa_nil)))))))) (pss_one (ps_ret pe_bl)) pss_nil)))))) (pss_one (ps_ret (pe_call (ok__law_is_refused E TM TX) (hr.mono (by decide)) rfl E.d__law_is_refused.g E.d__law_is_refused.F.kp E.d__law_is_refused.b .nil pass0 (pa_cons (pv 1) (pa_cons (pv 5) (pa_cons (pv 6) pa_nil))))))))))))))))))))⟩
    -- the deck
    refine q_asgP (P := fun v H' => ∃ d sc, v = .ref d ∧ DeckAt d sc H') (ev_callA (ea_cons (ev_var rfl) ea_nil) fun H1 e1 Q1 r1 => ⟨a, ns, rfl, ex_l e1 ha, hn, r1⟩) fun dv H1 e1 pd => ?_
    obtain ⟨d, sc, rfl, dk1⟩ := pd.now
    have hT1 := hT.ext e1
    -- the web
    refine ⟨_, rfl, d, sc, rfl, dk1, fun wv H2 W e2 dk2 hw2 ok2 w8 => ?_⟩
    have hT2 := tabs_deck dk1 e2 hT1
    -- k
    refine ⟨_, rfl, d, sc, 13, rfl, dk2, by decide, by decide, fun x3 H3 e3 dk3 x30 x31 => ⟨by show 7 ≤ sizeLine; decide, fun l3 nl3 => ?_⟩⟩
    have hw3 := hw2.t (dk2.t e3)
    have hT3 := tabs_deck dk2 e3 hT2
    obtain ⟨nl3d, _⟩ := dk3.ne nl3
    refine ⟨_, rfl, d, sc, 7, rfl, dk3.on (Ex.new nl3), by decide, by decide, fun x4 H4 e4 dk4 x40 x41 => ?_⟩
    have hw4 := (hw3.t (Ex.t (Ex.new nl3))).t ((dk3.on (Ex.new nl3)).t e4)
    have hT4 := tabs_deck (dk3.on (Ex.new nl3)) e4 (hT3.ext (Ex.new nl3))
    obtain ⟨k0, hk0, hk1⟩ := k_at x30 x31 x40 x41
    refine ⟨l3, _, x4, _, rfl, rfl, SqL.of (dkeep e4 upd_same nl3d), hk0, ?_⟩
    clear hT hT1 hT2 hT3 hw2 hw3 e1 e2 e3 e4 dk1 dk2 dk3 pd nl3 nl3d hk0
    refine q_asg (v := nV 5) ev_c fun H5 e5 => ?_
    have hw5 := hw4.t (Ex.t e5)
    have hT5 := hT4.ext e5
    have dk5 := dk4.on e5
    -- now and then a large one
    refine q_cut (M := fun σ' H' => ∃ (W : Wb) (wv : V) (k tn : Nat), σ' = [some (.ref a), some (.ref d), some wv, some (nV k), some (nV tn), none, none, none, none, none, none, none, none, none] ∧ LWebAt W wv H' ∧ Wok W ∧ W.ps.length ≤ 12 ∧ k ≤ 12 ∧ tn ≤ 5 ∧ DeckAt d sc H' ∧ LamX.Tabs T H') ?_ fun σ' H6 h => ?_
    · refine ⟨_, rfl, d, sc, 40, rfl, dk5, by decide, by decide, fun x6 H6 e6 dk6 x60 x61 => ⟨rfl, _, rfl, ?_⟩⟩
      have hw6 := hw5.t (dk5.t e6)
      have hT6 := tabs_deck dk5 e6 hT5
      by_cases z : x6 = 39
      · rw [decide_eq_true (show V.int x6 = V.int 39 by rw [z])]
        refine ⟨_, rfl, _, rfl, d, sc, W, wv, rfl, dk6, hw6, ok2, w8, fun v7 H7 W' e7 dk7 hw7 ok7 w12 => ?_⟩
        refine ⟨_, rfl, (k0 : Int), 3, rfl, ?_⟩
        refine ⟨W', v7, min k0 3, 2, ?_, hw7, ok7, w12, by omega, by decide, dk7, tabs_deck dk6 e7 hT6⟩
        have e : (if (3 : Int) < (k0 : Int) then (3 : Int) else (k0 : Int)) = ((min k0 3 : Nat) : Int) := by
          split <;> omega
        rw [e]
        rfl
      · rw [decide_eq_false (show ¬ V.int x6 = V.int 39 from fun y => z (V.int.inj y))]
        exact ⟨W, wv, k0, 5, rfl, hw6, ok2, by omega, hk1, by decide, dk6, hT6⟩
    · clear hw4 hw5 hT4 hT5 dk4 dk5 ok2 w8 hk1 e5
      obtain ⟨W, wv, k, tn, rfl, hw6, ok, w12, k12, t5, dk6, hT6⟩ := h
      have hm : Mth.Mono W.F := Wb.F_mono W
      -- the program's web
      obtain ⟨t, ap, rfl, ht, hps⟩ := id hw6
      refine ⟨_, rfl, t, _, 0, _, rfl, rfl, SqT.of ht, atI_nat (j := 0) rfl, _, rfl, t, _, 1, _, rfl, rfl, SqT.of ht, atI_nat (j := 1) rfl, _, rfl, t, _, 2, _, rfl, rfl, SqT.of ht, atI_nat (j := 2) rfl, ?_⟩
      intro xx dx nxx ndx nex
      have a5 : Ex H6 (upd (upd H6 dx (.own xx)) xx (.ins E.CW dx [])) := (Ex.new ndx).trans (Ex.new (by rw [upd_ne nex.symm]; exact nxx))
      refine ⟨xx, dx, ap, W, rfl, upd_same, hps.t (Ex.t a5), ok, fun H7 k7 hx7 => ⟨rfl, ?_⟩⟩
      have e67 : Ex H6 H7 := fun b o hb => k7 b o (ne_of_none hb nxx) (by rw [upd_ne (ne_of_none hb nxx), upd_ne (ne_of_none hb ndx)]; exact hb)
      have hmade : WebAt E.CW W (.ref xx) H7 := ⟨xx, dx, ap, rfl, hx7, hps.t (Ex.t e67)⟩
      have hw7 := hw6.t (Ex.t e67)
      have dk7 := dk6.on e67
      have hT7 := hT6.ext e67
      clear hx7 k7 a5 hw6 dk6 hT6
      -- how many
      obtain ⟨pvs, hpa, hpl⟩ := hps.t (Ex.t e67)
      have hlen : W.ps.length = pvs.length := hpl.length
      refine q_asg (v := nV W.ps.length) (ev_is (ev_lenS (LWebAt.ps (W := W) (e67 _ _ ht) (ev_var rfl) ev_c) (.inr (SqT.of hpa))) (by rw [hlen])) fun H8 e8 => ?_
      have hw8 := hw7.t (Ex.t e8)
      have hmade8 := hmade.on e8
      have dk8 := dk7.on e8
      have hT8 := hT7.ext e8
      clear hpa hpl hlen pvs hps ht e67 hw7 hmade dk7 hT7
      -- the safe lots
      refine ⟨_, rfl, _, rfl, W, .ref t, k, rfl, hw8, ok, w12, k12, hT8, fun H9 D ls x9 hT9 hD pm => ?_⟩
      have hw9 := LWebAt.n' x9 hw8
      have hmade9 := hmade8.n' x9
      have dk9 := dk8.n x9
      have nd : ls.Nodup := pm.nodup_iff.mpr (Mth.subsF_nodup _ List.nodup_range)
      have hmem : ∀ s, s ∈ ls ↔ s.Sublist (List.range W.ps.length) := fun s => by rw [pm.mem_iff, Mth.mem_subsF]
      have hsl : ∀ s, s ∈ ls → s.length ≤ 12 ∧ In W s := fun s hs => by
        have q := (hmem s).mp hs
        have q2 := q.length_le
        rw [List.length_range] at q2
        exact ⟨by omega, fun i hi => List.mem_range.mp (q.subset hi)⟩
      have hln : ls.length ≤ 4096 := by
        rw [pm.length_eq, Mth.subsF_len, List.length_range]
        exact Nat.le_trans (Nat.pow_le_pow_right (by decide) w12) (by decide)
      clear hw8 hmade8 dk8 hT8 x9 e8
      -- those with their sizes
      refine ⟨D, _, hD, trivial, fun od => ?_⟩
      have hDl : (upd H9 D (.frz od (.dT (dl (Mth.safeT W.F (min k W.ps.length)) ls)))) D = some (.frz od (.dT (dl (Mth.safeT W.F (min k W.ps.length)) ls))) := upd_same
      have xT : ExT H9 (upd H9 D (.frz od (.dT (dl (Mth.safeT W.F (min k W.ps.length)) ls)))) := (ExT.refl H9).mut hD rfl
      refine s_keysAsg (d := D) (od := od) (ev_var rfl) hDl (fun s => Mth.safeT W.F (min k W.ps.length) s) (SomeAt W) (fun a y H H' e h => h.t e) (by omega) (fun _ => ?_) (fun s v H10 e10 hs hv => ?_) (fun s v H10 e10 hs hv _ => ?_) fun Ds ys H10 e10 nDs hDs hys => ?_
      · rfl
      · exact et_B (ev_dget (ev_var rfl) (ev_var rfl) (dget_lotR (.inr ⟨od, e10 _ _ hDl⟩) hv hs))
      · have hw10 := hw9.t (xT.trans (Ex.t e10))
        obtain ⟨s12, hin⟩ := hsl s hs
        obtain ⟨b, rfl, hb⟩ := id hv
        refine evp_some (ev_callV (ea_cons (ev_var rfl) (ea_cons (ev_var rfl) ea_nil)) fun H11 e11 Q11 r11 => ⟨W, _, _, s, rfl, hw10.t (Ex.t e11), LotAt.on e11 hv, hin, by omega, r11⟩) (ev_is (ev_lenS (ev_var rfl) (.inr (SqT.of hb))) (by rw [List.length_map])) (ev_var rfl) hv
      · refine ⟨e10 _ _ hDl, ?_⟩
        have e9 : Ex H9 (upd H10 D (.dT (dl (Mth.safeT W.F (min k W.ps.length)) ls))) := ex_unlock hD e10
        have hys2 : Paired (fun s y => SomeAt W s y (upd H10 D (.dT (dl (Mth.safeT W.F (min k W.ps.length)) ls)))) (Mth.safes W.F (min k W.ps.length) ls) ys := hys.mono fun _ _ q => q.t ((ExT.refl H10).mut (e10 _ _ hDl) rfl)
        have hDs2 : (upd H10 D (.dT (dl (Mth.safeT W.F (min k W.ps.length)) ls))) Ds = some (.lst ys) := by
          rw [upd_ne]
          · exact hDs
          · intro z
            rw [z, hDl] at nDs
            cases nDs
        generalize upd H10 D (.dT (dl (Mth.safeT W.F (min k W.ps.length)) ls)) = H11 at e9 hys2 hDs2
        clear hys hDs nDs e10 hDl xT
        have hD11 := e9 _ _ hD
        have hmade11 := hmade9.on e9
        have dk11 := dk9.on e9
        have hT11 := hT9.ext e9
        clear hmade9 dk9 hT9 hD hw9 e9
        refine q_asg (v := .non) ev_c fun H12 e12 => ?_
        have hD12 := e12 _ _ hD11
        have hDs12 := e12 _ _ hDs2
        have hys12 : Paired (fun s y => SomeAt W s y H12) (Mth.safes W.F (min k W.ps.length) ls) ys := hys2.mono fun _ _ q => q.t (Ex.t e12)
        have hmade12 := hmade11.on e12
        have dk12 := dk11.on e12
        have hT12 := hT11.ext e12
        clear hD11 hDs2 hys2 hmade11 dk11 hT11 e12
        refine q_cut (M := fun σ' H' => ∃ (dv : V) (o : Option (List Nat)), σ' = [some (.ref a), some (.ref d), some (.ref t), some (nV k), some (nV tn), some (.ref xx), some (nV W.ps.length), some (.ref D), some (.ref Ds), none, some dv, none, none, none] ∧ Ex H12 H' ∧ OptLot o dv H' ∧ DueO W k ls o) ?_ fun σ' H13 h => ?_
        · refine s_when (b := decide (0 < (Mth.safes W.F (min k W.ps.length) ls).length)) (et_test (ev_is (ev_op (ev_lenS (ev_var rfl) (.inl (SqL.of hDs12))) ev_c rv_I0) ?_)) (fun hb H13 e13 => ?_) fun hb H13 e13 => ?_
          · rw [hys12.length]
            refine congrArg V.bl ?_
            by_cases z : 0 < ys.length
            · rw [decide_eq_true z, decide_eq_true (by omega)]
            · rw [decide_eq_false z, decide_eq_false (by omega)]
          · have hne : Mth.safes W.F (min k W.ps.length) ls ≠ [] := List.length_pos_iff.mp (of_decide_eq_true hb)
            obtain ⟨l, hdue⟩ := Mth.due_ex (f := W.size) hm pm hne
            exact s_asgP (evp_min2 (ev_var rfl) (e13 _ _ hDs12) (hys12.mono fun _ _ q => q.t (Ex.t e13)) hdue.mem hdue.lt) fun v H14 e14 pv => ⟨v, some l, rfl, e13.trans e14, pv.now, hdue⟩
          · refine ⟨.non, none, rfl, e13, rfl, ?_⟩
            have z := of_decide_eq_false hb
            exact List.eq_nil_of_length_eq_zero (by omega)
        · obtain ⟨dv, o, rfl, e13, hdv, hdue⟩ := h
          have hmade13 := hmade12.on e13
          have dk13 := dk12.on e13
          have hD13 := e13 _ _ hD12
          clear hmade12 dk12 hD12 hDs12 hys12 e13 hT12
          obtain ⟨c0, cs0, hc0, _⟩ := Mth.harms_first (F := W.F) (lot := List.range W.ps.length) (Wb.F_nil ok)
          -- what is told
          refine ⟨_, rfl, _, rfl, W, .ref xx, .non, nV k, rfl, hmade13, ok, .int _, .inl ⟨rfl, .inr (.inr ⟨k, c0, cs0, rfl, by omega, by omega, w12, hc0, fun v H14 e14 pv => ?_⟩)⟩⟩
          obtain ⟨p, x, o', rfl, hp, hx, hR⟩ := pv.now
          obtain rfl : o' = o := due_is pm hdue hR
          have hsm := due_small pm w12 hdue
          have hdv14 := OptLot.t (Ex.t e14) hdv
          have hmade14 := hmade13.on e14
          have dk14 := dk13.on e14
          have hD14 := e14 _ _ hD13
          clear hmade13 dk13 hD13 hdv pv
          refine q_when (b := false || false) (et_or (et_test (ev_neD (evp_toldV rfl hp hx) (evp_toldD rfl hdv14) (told_shaped _) (told_eqv _))) fun _ => et_test (ev_is (ev_op (ev_repr (evp_toldV rfl hp hx) (told_show hsm) (told_nodict _) (Nat.le_trans (told_depth _) (by decide)) (told_len hsm)) (ev_repr (evp_toldD rfl hdv14) (told_show hsm) (told_nodict _) (Nat.le_trans (told_depth _) (by decide)) (told_len hsm)) (rv_ne rfl)) ?_)) (fun h => absurd h (by decide)) fun _ H15 e15 => ?_
          · rw [decide_eq_true rfl]
            rfl
          · have hdv15 := OptLot.t (Ex.t e15) hdv14
            have hmade15 := hmade14.on e15
            have dk15 := dk14.on e15
            have hD15 := e15 _ _ hD14
            clear hmade14 dk14 hD14 hdv14 hx hp e15 e14
            refine q_forR1 (n := (tn : Int)) (ea_cons (ev_var rfl) ea_nil) (by omega) (fun i σ H' => ∃ u9 u12 u13, σ = [some (.ref a), some (.ref d), some (.ref t), some (nV k), some (nV tn), some (.ref xx), some (nV W.ps.length), some (.ref D), some (.ref Ds), u9, some dv, some (.ref p), u12, u13] ∧ DeckAt d sc H' ∧ WebAt E.CW W (.ref xx) H' ∧ H' D = some (.dT (dl (Mth.safeT W.F (min k W.ps.length)) ls)) ∧ OptLot o' dv H')
              (fun H16 e16 => ⟨none, none, none, rfl, dk15.on e16, hmade15.on e16, e16 _ _ hD15, OptLot.t (Ex.t e16) hdv15⟩) (fun i σ H16 hi h => ?_) fun σ H16 h => ?_
            · obtain ⟨u9, u12, u13, rfl, dk16, hmade16, hD16, hdv16⟩ := h
              refine ⟨_, rfl, _, rfl, ?_⟩
              refine pick (m := 3) (d := d) (sc := sc) (Pp := fun v _ => ∃ b : Int, v = .int b) dk16 (eah_cons (evp_of ev_c fun _ _ => ⟨4, rfl⟩) (eah_cons (evp_of ev_c fun _ _ => ⟨6, rfl⟩) (eah_cons (evp_of ev_c fun _ _ => ⟨8, rfl⟩) eah_nil))) (by decide) (by decide) rfl (fun v H H' _ _ _ hv => hv) fun bv H17 dk17 e17 hb => ?_
              obtain ⟨b, rfl⟩ := hb
              refine ⟨d, sc, W.ps.length, b, rfl, dk17, w12, fun lv H18 l e18 dk18 hl hls => ⟨9, rfl, sl9 hl fun v' H19 e19 hl' => ?_⟩⟩
              have hmade19 := ((hmade16.deck dk16 e17).deck dk17 e18).on e19
              have hD19 := e19 _ _ (dT_deck dk17 e18 (dT_deck dk16 e17 hD16))
              have hdv19 := OptLot.t (Ex.t e19) ((hdv16.deck dk16 e17).deck dk17 e18)
              have dk19 := dk18.on e19
              have hls' : (l.take 9).Sublist (List.range W.ps.length) := (List.take_sublist 9 l).trans hls
              clear hmade16 hD16 hdv16 dk16 dk17 dk18 e17 e18 e19 hl
              refine q_cut (M := fun σ' H' => ∃ (lv : V) (l : List Nat), σ' = [some (.ref a), some (.ref d), some (.ref t), some (nV k), some (nV tn), some (.ref xx), some (nV W.ps.length), some (.ref D), some (.ref Ds), some lv, some dv, some (.ref p), some (.int (i : Int)), u13] ∧ Ex H19 H' ∧ LotAt l lv H' ∧ l.Sublist (List.range W.ps.length)) ?_ fun σ' H20 h => ?_
              · refine s_when (b := decide (V.int (i : Int) = V.int ((tn : Int) - 1)) && !decide (dv = .non)) (et_and (et_test (ev_op (ev_var rfl) (ev_op (ev_var rfl) ev_c rv_I0) (rv_eq rfl))) fun _ => et_test (ev_op (ev_var rfl) ev_c rv_notN)) (fun hb H20 e20 => ?_) fun hb H20 e20 => ?_
                · obtain ⟨_, hb2⟩ := Bool.and_eq_true_iff.mp hb
                  cases o' with
                  | none =>
                    rw [show dv = .non from hdv19, decide_eq_true rfl] at hb2
                    cases hb2
                  | some l2 => exact s_asg (ev_var rfl) fun H21 e21 => ⟨dv, l2, rfl, e20.trans e21, OptLot.t (Ex.t (e20.trans e21)) hdv19, due_sub pm hdue⟩
                · exact ⟨v', l.take 9, rfl, e20, LotAt.on e20 hl', hls'⟩
              · obtain ⟨lv2, l2, rfl, e20, hl2, hs2⟩ := h
                have hmade20 := hmade19.on e20
                have hD20 := e20 _ _ hD19
                have hdv20 := OptLot.t (Ex.t e20) hdv19
                have dk20 := dk19.on e20
                clear hmade19 hD19 hdv19 dk19 e20 hl' hls'
                have hl2n := sub_len hs2
                obtain ⟨c1, cs1, hc1, _⟩ := Mth.harms_first (F := W.F) (lot := l2) (Wb.F_nil ok)
                refine ⟨_, rfl, _, rfl, _, rfl, W, .ref xx, lv2, nV k, rfl, hmade20, ok, .int _, .inr ⟨lot_ne hl2, .inr ⟨l2, hl2, sub_ok hs2, .inr (.inr ⟨k, c1, cs1, rfl, by omega, by omega, by omega, hc1, fun v H21 e21 pv => ?_⟩)⟩⟩⟩
                rw [Mth.safe_harm (n := W.ps.length) (Wb.F_nil ok) (List.nodup_range.sublist hs2) hl2n hc1] at pv
                obtain ⟨q, rfl, hq⟩ := pv.now
                have hD21 := e21 _ _ hD20
                refine s_when (b := false || false) (et_or (et_test (ev_same (evp_of (ev_var rfl) (TupIs.sta ⟨q, rfl, hq⟩)) (evp_tupC (ea_cons ev_c (ea_cons (ev_dget (ev_var rfl) (ev_var rfl) (dget_lot hD21 (LotAt.on e21 hl2) ((hmem l2).mpr hs2))) ea_nil)) (by show 2 ≤ 100000; decide)) (dp_sb _ _) (z4 _) (q4 _))) fun _ => et_not (a := true) (et_B (IsiA.ev (ev_op (ev_var rfl) ev_c (rv_ixT (SqT.of hq) (atI_nat (j := 1) rfl))) fun H1 e1 => isi_bool (.bl _)))) (fun h => absurd h (by decide)) fun _ H22 e22 => ?_
                have E22 := e21.trans e22
                exact ⟨_, _, _, rfl, dk20.on E22, hmade20.on E22, e22 _ _ hD21, OptLot.t (Ex.t E22) hdv20⟩
            · obtain ⟨u9, u12, u13, rfl, dk16, hmade16, hD16, hdv16⟩ := h
              exact ⟨_, rfl, _, rfl, _, rfl, d, sc, W, .ref xx, rfl, dk16, hmade16, ok, fun H' => kq H'⟩
end
end Wk
end

section
set_option Elab.async false
set_option linter.all false
set_option maxRecDepth 100000
set_option maxHeartbeats 4000000
namespace HdL
open PySem PySem.Spec PyProof.Rows L2 Evl Rk Wk
/-! the law's end: printed by genE.py -/
section
variable {K : Fr} {h : Heap} {mg : Str → Option Value}
noncomputable def envL (X : K.In h) (G : h.Ns mainGlobals mg) (c : Says faL fnL h K) (hcomb : mg "combinations" = some (.type "itertools.combinations")) : Env K mg where
  d_is_integer := mkDn X G c.d 0 0 rfl rfl (fun fd F => F.bindsN fun _ _ _ _ _ _ us hl => match us, hl with | [_], _ => rfl)
  d_is_within := mkDn X G c.d 1 1 rfl rfl (fun fd F => F.bindsN fun _ _ _ _ _ _ us hl => match us, hl with | [_, _, _], _ => rfl)
  d_is_pair := mkDn X G c.d 2 2 rfl rfl (fun fd F => F.bindsN fun _ _ _ _ _ _ us hl => match us, hl with | [_], _ => rfl)
  d_is_lot := mkDn X G c.d 3 3 rfl rfl (fun fd F => F.bindsN fun _ _ _ _ _ _ us hl => match us, hl with | [_, _], _ => rfl)
  d_is_prime := mkDn X G c.d 4 4 rfl rfl (fun fd F => F.bindsN fun _ _ _ _ _ _ us hl => match us, hl with | [_], _ => rfl)
  d_is_sum := mkDn X G c.d 5 5 rfl rfl (fun fd F => F.bindsN fun _ _ _ _ _ _ us hl => match us, hl with | [_, _], _ => rfl)
  d_inverse := mkDn X G c.d 6 6 rfl rfl (fun fd F => F.bindsN fun _ _ _ _ _ _ us hl => match us, hl with | [_, _], _ => rfl)
  d_less_times := mkDn X G c.d 7 7 rfl rfl (fun fd F => F.bindsN fun _ _ _ _ _ _ us hl => match us, hl with | [_, _, _, _], _ => rfl)
  d_first_place := mkDn X G c.d 8 8 rfl rfl (fun fd F => F.bindsN fun _ _ _ _ _ _ us hl => match us, hl with | [_], _ => rfl)
  d_is_piece := mkDn X G c.d 9 9 rfl rfl (fun fd F => F.bindsN fun _ _ _ _ _ _ us hl => match us, hl with | [_, _, _], _ => rfl)
  d_is_lot_of := mkDn X G c.d 10 10 rfl rfl (fun fd F => F.bindsN fun _ _ _ _ _ _ us hl => match us, hl with | [_, _], _ => rfl)
  d_check_lot := mkDn X G c.d 11 11 rfl rfl (fun fd F => F.bindsN fun _ _ _ _ _ _ us hl => match us, hl with | [_, _], _ => rfl)
  d_steps_in := mkDn X G c.d 12 12 rfl rfl (fun fd F => F.bindsN fun _ _ _ _ _ _ us hl => match us, hl with | [_, _], _ => rfl)
  d_rank_in := mkDn X G c.d 13 13 rfl rfl (fun fd F => F.bindsN fun _ _ _ _ _ _ us hl => match us, hl with | [_, _], _ => rfl)
  d_size_in := mkDn X G c.d 14 14 rfl rfl (fun fd F => F.bindsN fun _ _ _ _ _ _ us hl => match us, hl with | [_, _], _ => rfl)
  d_left_of := mkDn X G c.d 15 15 rfl rfl (fun fd F => F.bindsN fun _ _ _ _ _ _ us hl => match us, hl with | [_, _], _ => rfl)
  d_check_few := mkDn X G c.d 16 16 rfl rfl (fun fd F => F.bindsN fun _ _ _ _ _ _ us hl => match us, hl with | [_], _ => rfl)
  d_spans_all := mkDn X G c.d 17 17 rfl rfl (fun fd F => F.bindsN fun _ _ _ _ _ _ us hl => match us, hl with | [_, _], _ => rfl)
  d_harms_of := mkDn X G c.d 18 18 rfl rfl (fun fd F => F.bindsN fun _ _ _ _ _ _ us hl => match us, hl with | [_, _], _ => rfl)
  d_harms := mkDn X G c.d 19 19 rfl rfl (fun fd F => F.bindsN fun _ _ _ _ _ _ us hl => match us, hl with | [_, _], _ => rfl)
  d_safety := mkDn X G c.d 20 20 rfl rfl (fun fd F => F.bindsN fun _ _ _ _ _ _ us hl => match us, hl with | [_, _], _ => rfl)
  d_check_safe := mkDn X G c.d 21 21 rfl rfl (fun fd F => F.bindsN fun _ _ _ _ _ _ us hl => match us, hl with | [_], _ => rfl)
  d_is_safe := mkDn X G c.d 22 22 rfl rfl (fun fd F => F.bindsN fun _ _ _ _ _ _ us hl => match us, hl with | [_, _, _], _ => rfl)
  d_every := mkDn X G c.d 23 23 rfl rfl (fun fd F => F.bindsN fun _ _ _ _ _ _ us hl => match us, hl with | [_], _ => rfl)
  d_meets_all := mkDn X G c.d 24 24 rfl rfl (fun fd F => F.bindsN fun _ _ _ _ _ _ us hl => match us, hl with | [_, _, _], _ => rfl)
  d_all_lots := mkDn X G c.d 25 25 rfl rfl (fun fd F => F.bindsN fun _ _ _ _ _ _ us hl => match us, hl with | [_], _ => rfl)
  d_lightest_safe := mkDn X G c.d 26 26 rfl rfl (fun fd F => F.bindsN fun _ _ _ _ _ _ us hl => match us, hl with | [_, _], _ => rfl)
  d__law_deck := mkDn X G c.d 27 27 rfl rfl (fun fd F => F.bindsN fun _ _ _ _ _ _ us hl => match us, hl with | [_], _ => rfl)
  d__law_mixed := mkDn X G c.d 28 28 rfl rfl (fun fd F => F.bindsN fun _ _ _ _ _ _ us hl => match us, hl with | [_, _], _ => rfl)
  d__law_draw := mkDn X G c.d 29 29 rfl rfl (fun fd F => F.bindsN fun _ _ _ _ _ _ us hl => match us, hl with | [_, _], _ => rfl)
  d__law_rank := mkDn X G c.d 30 30 rfl rfl (fun fd F => F.bindsN fun _ _ _ _ _ _ us hl => match us, hl with | [_, _], _ => rfl)
  d__law_sums := mkDn X G c.d 31 31 rfl rfl (fun fd F => F.bindsN fun _ _ _ _ _ _ us hl => match us, hl with | [_, _], _ => rfl)
  d__law_spans := mkDn X G c.d 32 32 rfl rfl (fun fd F => F.bindsN fun _ _ _ _ _ _ us hl => match us, hl with | [_, _], _ => rfl)
  d__law_size := mkDn X G c.d 33 33 rfl rfl (fun fd F => F.bindsN fun _ _ _ _ _ _ us hl => match us, hl with | [_, _], _ => rfl)
  d__law_left := mkDn X G c.d 34 34 rfl rfl (fun fd F => F.bindsN fun _ _ _ _ _ _ us hl => match us, hl with | [_, _], _ => rfl)
  d__law_sum := mkDn X G c.d 35 35 rfl rfl (fun fd F => F.bindsN fun _ _ _ _ _ _ us hl => match us, hl with | [_, _, _], _ => rfl)
  d__law_web := mkDn X G c.d 36 36 rfl rfl (fun fd F => F.bindsN fun _ _ _ _ _ _ us hl => match us, hl with | [_, _, _], _ => rfl)
  d__law_lot := mkDn X G c.d 37 37 rfl rfl (fun fd F => F.bindsN fun _ _ _ _ _ _ us hl => match us, hl with | [_, _, _], _ => rfl)
  d__law_lots := mkDn X G c.d 38 38 rfl rfl (fun fd F => F.bindsN fun _ _ _ _ _ _ us hl => match us, hl with | [_], _ => rfl)
  d__law_odd_lot := mkDn X G c.d 39 39 rfl rfl (fun fd F => F.bindsN fun _ _ _ _ _ _ us hl => match us, hl with | [_, _], _ => rfl)
  d__law_safe_lots := mkDn X G c.d 40 40 rfl rfl (fun fd F => F.bindsN fun _ _ _ _ _ _ us hl => match us, hl with | [_, _], _ => rfl)
  d__law_large := mkDn X G c.d 41 41 rfl rfl (fun fd F => F.bindsN fun _ _ _ _ _ _ us hl => match us, hl with | [_, _], _ => rfl)
  d__law_told := mkDn X G c.d 42 42 rfl rfl (fun fd F => F.bindsN fun _ _ _ _ _ _ us hl => match us, hl with | [_, _, _], _ => rfl)
  d__law_is_refused := mkDn X G c.d 43 43 rfl rfl (fun fd F => F.bindsN fun _ _ _ _ _ _ us hl => match us, hl with | [_, _, _], _ => rfl)
  d_law := mkDn X G c.d 44 44 rfl rfl (fun fd F => F.bindsN fun _ _ _ _ _ _ us hl => match us, hl with | [_], _ => rfl)
  CS := He.ga K "Steps"
  CW := He.ga K "Web"
  k_Steps := He.cls_ok (c.d.fact 50 rfl)
  k_Web := He.cls_ok (c.d.fact 52 rfl)
  g_Steps := He.glo_ok X G (c.d.fact 51 rfl)
  g_Web := He.glo_ok X G (c.d.fact 53 rfl)
  a_kept_prime := He.noat_ok (c.d.fact 54 rfl)
  a_kept_rows := He.noat_ok (c.d.fact 55 rfl)
  a_prime := He.noat_ok (c.d.fact 56 rfl)
  a_many := He.noat_ok (c.d.fact 57 rfl)
  a_pieces := He.noat_ok (c.d.fact 58 rfl)
  i_Steps := mkMt c.d 45 rfl (fun fd F => F.bindsN fun _ _ _ _ _ _ us hl => match us, hl with | [_, _], _ => rfl)
  mk_Steps := He.mkr_ok (c.d.fact 45 rfl)
  m_fallen := mkMt c.d 46 rfl (fun fd F => F.bindsN fun _ _ _ _ _ _ us hl => match us, hl with | [_, _, _], _ => rfl)
  M_fallen := He.meth_ok (c.d.fact 46 rfl)
  m_take := mkMt c.d 47 rfl (fun fd F => F.bindsN fun _ _ _ _ _ _ us hl => match us, hl with | [_, _, _], _ => rfl)
  M_take := He.meth_ok (c.d.fact 47 rfl)
  m_cleared := mkMt c.d 48 rfl (fun fd F => F.bindsN fun _ _ _ _ _ _ us hl => match us, hl with | [_, _, _, _, _], _ => rfl)
  M_cleared := He.meth_ok (c.d.fact 48 rfl)
  i_Web := mkMt c.d 49 rfl (fun fd F => F.bindsN fun _ _ _ _ _ _ us hl => match us, hl with | [_, _, _, _], _ => rfl)
  mk_Web := He.mkr_ok (c.d.fact 49 rfl)
  f_len := He.free_ok X G (c.d.fact 59 rfl)
  f_isinstance := He.free_ok X G (c.d.fact 60 rfl)
  f_int := He.free_ok X G (c.d.fact 61 rfl)
  f_bool := He.free_ok X G (c.d.fact 62 rfl)
  f_tuple := He.free_ok X G (c.d.fact 63 rfl)
  f_list := He.free_ok X G (c.d.fact 64 rfl)
  f_dict := He.free_ok X G (c.d.fact 65 rfl)
  f_range := He.free_ok X G (c.d.fact 66 rfl)
  f_all := He.free_ok X G (c.d.fact 67 rfl)
  f_any := He.free_ok X G (c.d.fact 68 rfl)
  f_sum := He.free_ok X G (c.d.fact 69 rfl)
  f_min := He.free_ok X G (c.d.fact 70 rfl)
  f_max := He.free_ok X G (c.d.fact 71 rfl)
  f_abs := He.free_ok X G (c.d.fact 72 rfl)
  f_zip := He.free_ok X G (c.d.fact 73 rfl)
  f_enumerate := He.free_ok X G (c.d.fact 74 rfl)
  f_sorted := He.free_ok X G (c.d.fact 75 rfl)
  f_repr := He.free_ok X G (c.d.fact 76 rfl)
  c_LEAST_PRIME := mkCn X G c.d 77 rfl
  c_MOST_PRIME := mkCn X G c.d 78 rfl
  c_MOST_WIDTH := mkCn X G c.d 79 rfl
  c_MOST_MANY := mkCn X G c.d 80 rfl
  c_MOST_PIECES := mkCn X G c.d 81 rfl
  c_MOST_SIZE := mkCn X G c.d 82 rfl
  c_MOST_FEW := mkCn X G c.d 83 rfl
  c_MOST_SAFE := mkCn X G c.d 84 rfl
  g_combinations := hcomb
  CK := He.ga K "KeepError"
  CL := He.ga K "NoLot"
  CN := He.ga K "NoNumber"
  CM := He.ga K "TooMany"
  fM := He.fAd K ("TooMany", some "__init__")
  e_KeepError := mkEc X G c.d 85 86 rfl rfl
  e_NoLot := mkEc X G c.d 87 88 rfl rfl
  e_NoNumber := mkEc X G c.d 89 90 rfl rfl
theorem exL_all (h : exL K = true) : PySem.W.nsIn K mainGlobals "combinations" = some (some (.type "itertools.combinations")) ∧ ExcC K (He.ga K "NoLot") ∧ ExcC K (He.ga K "NoNumber") ∧ ExcC K (He.ga K "TooMany") ∧ XfC K (He.ga K "TooMany") ∧
    PySem.W.kitOne K (.ref (He.ga K "NoLot")) (.ref (He.ga K "KeepError")) = some true ∧ PySem.W.kitOne K (.ref (He.ga K "NoNumber")) (.ref (He.ga K "KeepError")) = some true ∧ PySem.W.kitOne K (.ref (He.ga K "TooMany")) (.ref (He.ga K "KeepError")) = some true ∧
    (clsXB K (He.ga K "TooMany") = true ∧ PySem.W.findIn K (.ref (He.ga K "TooMany")) "__setattr__" = some (some (.builtin "object.__setattr__")) ∧ PySem.W.findIn K (.ref (He.ga K "TooMany")) "__init__" = some (some (.ref (He.fAd K ("TooMany", some "__init__")))) ∧
    PySem.W.typeIn K (.ref (He.fAd K ("TooMany", some "__init__"))) = some (.type "function") ∧ PySem.W.keepIn K (.ref (He.ga K "TooMany")) = true ∧ PySem.W.subIn K (.ref (He.ga K "TooMany")) (.type "BaseException") = some true ∧ PySem.W.typeIn K (.ref (He.ga K "TooMany")) = some (.type "type") ∧
    PySem.W.subIn K (.ref (He.ga K "TooMany")) (.type "ValueError") = some true ∧ PySem.W.mroIn K (He.ga K "TooMany") (.ref (He.ga K "TooMany")) = some true ∧ PySem.W.ks_superIn K (He.ga K "TooMany") (He.ga K "TooMany") "__init__" = some (some (.builtin "ValueError.__init__")) ∧
    PySem.W.nsIn K cStatics "thirdparty.any" = some none ∧ tmB K = true) := by
  unfold exL at h
  simp only [Bool.and_eq_true, decide_eq_true_eq] at h
  obtain ⟨a1, a2, a3, a4, a5, a6, a7, a8, a9⟩ := h
  exact ⟨a1, excCB_ok a2, excCB_ok a3, excCB_ok a4, xfB_ok a5, a6, a7, a8, a9⟩
theorem txtL (X : K.In h) (G : h.Ns mainGlobals mg) (c : Says faL fnL h K) : Tm.Txt PySem.Challenge.pw_lightfirst_k63_whole_lightest_safe_lots K mg (He.ga K "TooMany") (He.fAd K ("TooMany", some "__init__")) := by
  obtain ⟨_, _, _, _, _, _, _, _, b1, b2, b3, b4, b5, b6, b7, b8, b9, b10, b11, b12⟩ := exL_all c.ex
  exact ⟨He.glo_ok X G (c.d.fact 91 rfl), clsXB_ok b1, b2, He.noat_ok (c.d.fact 92 rfl), b3, b4, b5, b6, b7, b8, b9, b10, b11, He.free_ok X G (c.d.fact 93 rfl), tm_fn c.tm b12, by decide +kernel⟩
theorem toldL (X : K.In h) (G : h.Ns mainGlobals mg) (c : Says faL fnL h K) : ToldX K mg (He.ga K "KeepError") (He.ga K "NoLot") (He.ga K "NoNumber") (He.ga K "TooMany") := by
  obtain ⟨_, b1, b2, b3, b4, b5, b6, b7, _⟩ := exL_all c.ex
  exact ⟨b1, b2, b3, b4, He.noat_ok (c.d.fact 92 rfl), b5, b6, b7, He.glo_ok X G (c.d.fact 91 rfl), He.exm_ok (c.d.fact 94 rfl), He.exm_ok (c.d.fact 95 rfl), He.exm_ok (c.d.fact 96 rfl), He.exm_ok (c.d.fact 97 rfl), He.exm_ok (c.d.fact 98 rfl), He.exm_ok (c.d.fact 99 rfl)⟩
theorem codeL {x q : Str} {params : Arguments} {body : List Stmt} {scope : Scope} {fd : FuncData} (F : FunD K x q params body scope [] [] (He.fAd K ("_law_lots", none)) fd) : fd.code = .ref (lamC K) := by
  obtain ⟨oc, od, dV, kV, doc, pm, an, cdv, ct, osl, rfl, lk, hcd, _, _⟩ := F.ex
  obtain ⟨c, rfl⟩ := He.codeIn_ref hcd
  exact congrArg Value.ref (He.codeOf_eq lk rfl).symm
theorem lawL (w : World) (X : K.In h) (G : h.Ns mainGlobals mg) (c : Says faL fnL h K) {fa : Addr} (hfa : mg "law" = some (.ref fa)) : LawG PySem.Challenge.rw_lightfirst_k63_whole_lightest_safe_lots w K CX0 15 63 "_law_script" mg fa h := by
  have hcomb : mg "combinations" = some (.type "itertools.combinations") := PySem.W.mg_of X G (exL_all c.ex).1
  obtain rfl : fa = (envL X G c hcomb).d_law.f := by
    have e := hfa.symm.trans (envL X G c hcomb).d_law.g
    cases e
    rfl
  have hT : (lamP K, lamQ) ∈ [(lamP K, lamQ)] := List.mem_singleton.mpr rfl
  have hU : ∀ p ∈ [(lamP K, lamQ)], p.1 = lamP K → p.2 = lamQ := fun p hp _ => by rw [List.mem_singleton.mp hp]
  have b := FunD.bindsA (ps := ["_law_script"]) (envL X G c hcomb).d_law.F fun _ _ _ _ _ _ us hl => match us, hl with | [_], _ => rfl
  refine ⟨(envL X G c hcomb).d_law.fd, lamC K, lamP K, sp_law K [(lamP K, lamQ)], c.empty, c.out, PySem.W.codeHd_of_K X c.hd, fun s u => b s [u] rfl, fun H a ns hl hH hS => ?_, fun base _ _ TB => ?_⟩
  · exact ⟨a, ns, rfl, hS, by omega, fun p hp => by rw [List.mem_singleton.mp hp]; exact LamX.TabS.nil hH, fun _ => rfl⟩
  · exact ok_law (envL X G c hcomb) (txtL X G c) (toldL X G c) ⟨codeL (envL X G c hcomb).d__law_lots.F, TB⟩ hT hU
end
end HdL
end

set_option Elab.async false
set_option linter.all false
set_option maxRecDepth 100000
set_option maxHeartbeats 4000000
open PySem PySem.W PySem.Calls PyProof.Rows
theorem PySem.Challenge.cw_lightfirst_k63_whole_lightest_safe_lots_holds : PySem.Challenge.rw_lightfirst_k63_whole_lightest_safe_lots.Holds := by
  w_on; o_law
  refine HandSHeadRun.head_imp (r := HdL.R) (q := HdL.qv) (H := HdL.hkL) (ob := HdL.obL) (M := 20000) (loose := HdL.looseL) (d := HandSHeadRun.topDef HdL.R.prog 67) (kwd := []) HdL.obL_eq HdL.runL HdL.z1 HdL.z2 HdL.z3 HdL.z4 HdL.z5 HdL.z6 HdL.z7 ?hw ?hc
  case hw => w_witness2
  case hc =>
    refine Wk.walk_ofG (l := PySem.Challenge.rw_lightfirst_k63_whole_lightest_safe_lots) (n := 63) (k := 15) (x := "_law_script") (CX := fun _ => L2.CX0) rfl (by decide) HdL.z9 ⟨rfl, by decide, by decide⟩ ?F (fun _ _ _ _ _ z => z)
    intro w mg fa h Y G hmg0
    obtain ⟨K, X, c⟩ := Y
    have hmg : mg ("law" : PySem.Str) = some (.ref fa) := by
      rw [← HdL.z8]
      exact hmg0
    exact ⟨K, X, HdL.lawL w X G c hmg⟩
