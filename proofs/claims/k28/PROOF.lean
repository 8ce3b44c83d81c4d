import PyProof.Rows.All
import Wide.All
import OpenK.AllK
import Wide.FinOn
import HandS.ForMost
import HandS.Walk
import HandS.Zip
import HandS.IsInst
import HandS.OwnEq
import HandS.TupAny
import HandS.TupMul
import HandS.Style
import HandS.Deep
import HandS.Exc
import HandS.TryOnly
import HandS.ExcOwn
import HandS.WordsExc
import HandS.Conv
import PyProof.SumAny
import KE.GoesEnum
import KE.GoesMore
import HandS.SetFor
import HandS.ExcIs
import PySem.Challenge.RW_mapwebs_k28_whole_turns_by_own_kernels
import HandS.SlotsOwn
import HandS.Lambda
import HandS.EndTab
import KE.KNestM
import KE.KLam
import KE.RegKIsAll
set_option Elab.async false
set_option linter.all false
/-! The mathematics: sums, congruences, elimination modulo a prime, what it spans, its rank. -/
namespace MW

/-! ### congruences -/
def Cg (p a b : Int) : Prop := p ∣ a - b
theorem Cg.refl {p a : Int} : Cg p a a := ⟨0, by simp [Int.sub_self]⟩
theorem Cg.of_eq {p a b : Int} (h : a = b) : Cg p a b := h ▸ Cg.refl
theorem Cg.symm {p a b : Int} (h : Cg p a b) : Cg p b a := by
  obtain ⟨k, e⟩ := h
  refine ⟨-k, ?_⟩
  have e2 : p * -k = -(p * k) := Int.mul_neg _ _
  omega
theorem Cg.trans {p a b c : Int} (h : Cg p a b) (h' : Cg p b c) : Cg p a c := by
  obtain ⟨k, e⟩ := h
  obtain ⟨l, e'⟩ := h'
  refine ⟨k + l, ?_⟩
  have e2 : p * (k + l) = p * k + p * l := Int.mul_add _ _ _
  omega
theorem Cg.add {p a b c d : Int} (h : Cg p a b) (h' : Cg p c d) : Cg p (a + c) (b + d) := by
  obtain ⟨k, e⟩ := h
  obtain ⟨l, e'⟩ := h'
  refine ⟨k + l, ?_⟩
  have e2 : p * (k + l) = p * k + p * l := Int.mul_add _ _ _
  omega
theorem Cg.smul {p a b : Int} (c : Int) (h : Cg p a b) : Cg p (c * a) (c * b) := by
  obtain ⟨k, e⟩ := h
  refine ⟨c * k, ?_⟩
  rw [← Int.mul_sub, e, ← Int.mul_assoc, ← Int.mul_assoc, Int.mul_comm c p]
theorem Cg.mul {p a b c d : Int} (h : Cg p a b) (h' : Cg p c d) : Cg p (a * c) (b * d) := by
  have h1 : Cg p (a * c) (a * d) := h'.smul a
  have h2 : Cg p (d * a) (d * b) := h.smul d
  rw [Int.mul_comm d a, Int.mul_comm d b] at h2
  exact h1.trans h2
theorem Cg.emod {p a : Int} : Cg p (a % p) a := by
  refine ⟨-(a / p), ?_⟩
  have := Int.emod_add_mul_ediv a p
  have e2 : p * -(a / p) = -(p * (a / p)) := Int.mul_neg _ _
  omega
theorem Cg.zero_of {p a : Int} (h : Cg p a 0) : p ∣ a := by
  obtain ⟨k, e⟩ := h
  exact ⟨k, by omega⟩
theorem Cg.of_dvd {p a : Int} (h : p ∣ a) : Cg p a 0 := by
  obtain ⟨k, e⟩ := h
  exact ⟨k, by omega⟩

/-! ### sums -/
def LS (l : List Nat) (f : Nat → Int) : Int := (l.map f).sum
theorem LS_nil (f : Nat → Int) : LS [] f = 0 := rfl
theorem LS_cons (a : Nat) (l : List Nat) (f : Nat → Int) : LS (a :: l) f = f a + LS l f := by unfold LS; simp
theorem LS_add (f g : Nat → Int) : ∀ l : List Nat, LS l (fun i => f i + g i) = LS l f + LS l g
  | [] => rfl
  | a :: l => by rw [LS_cons, LS_cons, LS_cons, LS_add f g l]; omega
theorem LS_mul (c : Int) (f : Nat → Int) : ∀ l : List Nat, LS l (fun i => c * f i) = c * LS l f
  | [] => by simp [LS_nil]
  | a :: l => by rw [LS_cons, LS_cons, LS_mul c f l, Int.mul_add]
theorem LS_mulr (c : Int) (f : Nat → Int) (l : List Nat) : LS l (fun i => f i * c) = LS l f * c := by
  have e : (fun i => f i * c) = fun i => c * f i := by funext i; exact Int.mul_comm _ _
  rw [e, LS_mul, Int.mul_comm]
theorem LS_zero : ∀ l : List Nat, LS l (fun _ => 0) = 0
  | [] => rfl
  | a :: l => by rw [LS_cons, LS_zero l]; rfl
theorem LS_congr {f g : Nat → Int} : ∀ {l : List Nat}, (∀ i ∈ l, f i = g i) → LS l f = LS l g
  | [], _ => rfl
  | a :: l, h => by rw [LS_cons, LS_cons, h a List.mem_cons_self, LS_congr fun i hi => h i (List.mem_cons_of_mem _ hi)]
theorem LS_cg {p : Int} {f g : Nat → Int} : ∀ {l : List Nat}, (∀ i ∈ l, Cg p (f i) (g i)) → Cg p (LS l f) (LS l g)
  | [], _ => Cg.refl
  | a :: l, h => by
    rw [LS_cons, LS_cons]
    exact (h a List.mem_cons_self).add (LS_cg fun i hi => h i (List.mem_cons_of_mem _ hi))
theorem LS_comm (f : Nat → Nat → Int) (m : List Nat) : ∀ l : List Nat, LS l (fun i => LS m (fun j => f i j)) = LS m (fun j => LS l (fun i => f i j))
  | [] => by simp only [LS_nil]; exact (LS_zero m).symm
  | a :: l => by
    rw [LS_cons, LS_comm f m l, ← LS_add]
    exact LS_congr fun j _ => (LS_cons a l fun i => f i j).symm
theorem LS_none {k : Nat} {f : Nat → Int} {l : List Nat} (h : k ∉ l) : LS l (fun i => if i = k then f i else 0) = 0 := by
  rw [LS_congr (g := fun _ => 0) fun i hi => if_neg fun e : i = k => h (by rw [← e]; exact hi)]
  exact LS_zero l
theorem LS_delta {k : Nat} {f : Nat → Int} : ∀ {l : List Nat}, l.Nodup → k ∈ l → LS l (fun i => if i = k then f i else 0) = f k
  | [], _, h => by cases h
  | a :: l, nd, h => by
    rw [LS_cons]
    have nd' := List.nodup_cons.mp nd
    by_cases e : a = k
    · subst e
      rw [if_pos rfl, LS_none nd'.1]
      omega
    · rw [if_neg e, LS_delta nd'.2 ((List.mem_cons.mp h).resolve_left fun q => e q.symm)]
      omega
theorem LS_perm {f : Nat → Int} {l m : List Nat} (h : l.Perm m) : LS l f = LS m f := by
  induction h with
  | nil => rfl
  | cons a _ ih => rw [LS_cons, LS_cons, ih]
  | swap a b l => rw [LS_cons, LS_cons, LS_cons, LS_cons]; omega
  | trans _ _ h1 h2 => rw [h1, h2]

/-! ### the prime -/
def invF (p w : Int) : Int := (List.range (p - 2).toNat).foldl (fun f _ => f * w % p) 1
structure Fp (p : Int) : Prop where
  pos : 1 < p
  small : p ≤ 13
  inv : ∀ w, 0 < w → w < p → (w * invF p w) % p = 1
theorem fp2 : Fp 2 := ⟨by decide, by decide, fun w h1 h2 => by obtain rfl : w = 1 := by omega
                                                               decide⟩
theorem fp3 : Fp 3 := ⟨by decide, by decide, fun w h1 h2 => by
  have : w = 1 ∨ w = 2 := by omega
  rcases this with rfl | rfl <;> decide⟩
theorem fp5 : Fp 5 := ⟨by decide, by decide, fun w h1 h2 => by
  have : w = 1 ∨ w = 2 ∨ w = 3 ∨ w = 4 := by omega
  rcases this with rfl | rfl | rfl | rfl <;> decide⟩
theorem fp13 : Fp 13 := ⟨by decide, by decide, fun w h1 h2 => by
  have : w = 1 ∨ w = 2 ∨ w = 3 ∨ w = 4 ∨ w = 5 ∨ w = 6 ∨ w = 7 ∨ w = 8 ∨ w = 9 ∨ w = 10 ∨ w = 11 ∨ w = 12 := by omega
  rcases this with rfl | rfl | rfl | rfl | rfl | rfl | rfl | rfl | rfl | rfl | rfl | rfl <;> decide⟩
theorem Fp.unit {p : Int} (F : Fp p) {w : Int} (h : ¬ p ∣ w) : ∃ u, Cg p (u * w) 1 := by
  have hp := F.pos
  have h1 : 0 ≤ w % p := Int.emod_nonneg _ (by omega)
  have h2 : w % p < p := Int.emod_lt_of_pos _ (by omega)
  have h3 : w % p ≠ 0 := fun e => h (Int.dvd_of_emod_eq_zero e)
  have e := F.inv (w % p) (by omega) h2
  refine ⟨invF p (w % p), ?_⟩
  have c1 : Cg p (w % p * invF p (w % p)) 1 := (Cg.emod (p := p)).symm.trans (Cg.of_eq e)
  have c2 : Cg p (w * invF p (w % p)) (w % p * invF p (w % p)) := (Cg.emod (p := p)).symm.mul Cg.refl
  rw [Int.mul_comm]
  exact c2.trans c1

/-! ### more unknowns than equations -/
theorem solve {p : Int} (F : Fp p) : ∀ (fs : List (Nat → Int)) (S : List Nat), S.Nodup → fs.length < S.length →
    ∃ x : Nat → Int, (∃ i ∈ S, ¬ p ∣ x i) ∧ ∀ f ∈ fs, p ∣ LS S (fun i => f i * x i) := by
  intro fs
  generalize hn : fs.length = n
  induction n generalizing fs with
  | zero =>
    intro S nd hl
    cases fs with
    | cons f fs => simp at hn
    | nil =>
      cases S with
      | nil => simp at hl
      | cons a S =>
        refine ⟨fun _ => 1, ⟨a, List.mem_cons_self, fun h => ?_⟩, fun f hf => nomatch hf⟩
        have hp := F.pos
        have := Int.le_of_dvd (show (0 : Int) < 1 by decide) h
        omega
  | succ n ih =>
    intro S nd hl
    cases fs with
    | nil => simp at hn
    | cons f fs =>
      have hn' : fs.length = n := by simpa using hn
      by_cases h : ∀ i ∈ S, p ∣ f i
      · obtain ⟨x, h1, h2⟩ := ih fs hn' S nd (by omega)
        refine ⟨x, h1, fun g hg => ?_⟩
        rcases List.mem_cons.mp hg with rfl | hg
        · refine Cg.zero_of ((LS_cg (g := fun _ => 0) fun i hi => ?_).trans (Cg.of_eq (LS_zero S)))
          have c := (Cg.of_dvd (h i hi)).mul (Cg.refl (a := x i))
          rwa [Int.zero_mul] at c
        · exact h2 g hg
      · obtain ⟨k, hk, hfk⟩ : ∃ k, k ∈ S ∧ ¬ p ∣ f k := by
          apply Classical.byContradiction
          intro q
          exact h fun i hi => Classical.byContradiction fun z => q ⟨i, hi, z⟩
        obtain ⟨u, hu⟩ := F.unit hfk
        have hlen : (S.erase k).length = S.length - 1 := List.length_erase_of_mem hk
        obtain ⟨x, ⟨i0, hi0, hx0⟩, h2⟩ := ih (fs.map fun g i => g i - g k * u * f i) (by simpa using hn') (S.erase k) (nd.erase k) (by omega)
        have nk : ∀ i ∈ S.erase k, i ≠ k := fun i hi e => by
          rw [e] at hi
          exact (List.Nodup.mem_erase_iff nd).mp hi |>.1 rfl
        let y : Nat → Int := fun i => if i = k then -(u * LS (S.erase k) (fun i => f i * x i)) else x i
        have split : ∀ g : Nat → Int, LS S (fun i => g i * y i) = g k * (-(u * LS (S.erase k) (fun i => f i * x i))) + LS (S.erase k) (fun i => g i * x i) := fun g => by
          rw [LS_perm (List.perm_cons_erase hk), LS_cons]
          have e1 : y k = -(u * LS (S.erase k) (fun i => f i * x i)) := if_pos rfl
          rw [e1]
          congr 1
          exact LS_congr fun i hi => by
            have e2 : y i = x i := if_neg (nk i hi)
            rw [e2]
        refine ⟨y, ⟨i0, List.mem_of_mem_erase hi0, ?_⟩, fun g hg => ?_⟩
        · have e2 : y i0 = x i0 := if_neg (nk i0 hi0)
          rw [e2]
          exact hx0
        · rw [split g]
          rcases List.mem_cons.mp hg with rfl | hg
          · generalize LS (S.erase k) (fun i => g i * x i) = z
            obtain ⟨m, hm⟩ := hu
            refine ⟨-(m * z), ?_⟩
            have e1 : g k * -(u * z) = -(u * g k * z) := by
              rw [Int.mul_neg, ← Int.mul_assoc, Int.mul_comm (g k) u]
            have e2 : u * g k = 1 + p * m := by omega
            rw [e1, e2, Int.add_mul, Int.one_mul, Int.mul_neg, Int.mul_assoc]
            omega
          · have q := h2 _ (List.mem_map.mpr ⟨g, hg, rfl⟩)
            have e : LS (S.erase k) (fun i => (g i - g k * u * f i) * x i) = g k * -(u * LS (S.erase k) fun i => f i * x i) + LS (S.erase k) fun i => g i * x i := by
              have e1 : LS (S.erase k) (fun i => (g i - g k * u * f i) * x i) = LS (S.erase k) (fun i => -(g k * u) * (f i * x i) + g i * x i) := LS_congr fun i _ => by
                rw [Int.sub_mul, Int.neg_mul, Int.mul_assoc (g k * u)]
                omega
              rw [e1, LS_add, LS_mul, Int.mul_neg, ← Int.mul_assoc, Int.neg_mul]
            rw [e] at q
            exact q

/-- the unit table of size a is no product by way of fewer than a -/
theorem sq_le {p : Int} (F : Fp p) {a b : Nat} (M N : Nat → Nat → Int) (h : ∀ i < a, ∀ k < a, Cg p (LS (List.range b) (fun j => M i j * N j k)) (if i = k then 1 else 0)) : a ≤ b := by
  apply Classical.byContradiction
  intro hlt
  obtain ⟨x, ⟨k, hk, hxk⟩, h2⟩ := solve F ((List.range b).map fun j i => M i j) (List.range a) List.nodup_range (by simp; omega)
  have hk' : k < a := List.mem_range.mp hk
  apply hxk
  apply Cg.zero_of
  have e0 : x k = LS (List.range a) (fun i => if i = k then x i else 0) := (LS_delta List.nodup_range hk).symm
  rw [e0]
  have c1 : Cg p (LS (List.range a) (fun i => if i = k then x i else 0)) (LS (List.range a) fun i => x i * LS (List.range b) (fun j => M i j * N j k)) := LS_cg fun i hi => by
    have c := (h i (List.mem_range.mp hi) k hk').symm.smul (x i)
    refine Cg.trans (Cg.of_eq ?_) c
    by_cases e : i = k
    · rw [if_pos e, if_pos e, Int.mul_one]
    · rw [if_neg e, if_neg e, Int.mul_zero]
  refine c1.trans ?_
  have e1 : LS (List.range a) (fun i => x i * LS (List.range b) (fun j => M i j * N j k)) = LS (List.range b) (fun j => N j k * LS (List.range a) (fun i => M i j * x i)) := by
    have e2 : LS (List.range a) (fun i => x i * LS (List.range b) (fun j => M i j * N j k)) = LS (List.range a) (fun i => LS (List.range b) (fun j => x i * (M i j * N j k))) := LS_congr fun i _ => (LS_mul _ _ _).symm
    rw [e2, LS_comm]
    refine LS_congr fun j _ => ?_
    rw [← LS_mul]
    exact LS_congr fun i _ => by rw [Int.mul_comm (x i), Int.mul_comm (M i j) (N j k), Int.mul_assoc]
  rw [e1]
  refine (LS_cg (g := fun _ => 0) fun j hj => ?_).trans (Cg.of_eq (LS_zero _))
  have q := h2 _ (List.mem_map.mpr ⟨j, hj, rfl⟩)
  have c := (Cg.of_dvd q).smul (N j k)
  rwa [Int.mul_zero] at c

/-! ### rows, and what they span -/
def ix (r : List Int) (i : Nat) : Int := r.getD i 0
theorem ix_get {r : List Int} {i : Nat} (h : i < r.length) : ix r i = r[i] := by unfold ix; simp [h]
theorem ix_out {r : List Int} {i : Nat} (h : r.length ≤ i) : ix r i = 0 := by unfold ix; simp [h]
theorem ix_some {r : List Int} {i : Nat} (h : i < r.length) : r[i]? = some (ix r i) := by rw [ix_get h]; simp [h]
/-- a row of w worths -/
def Wr (p : Int) (w : Nat) (r : List Int) : Prop := r.length = w ∧ ∀ x ∈ r, 0 ≤ x ∧ x < p
theorem Wr.at {p : Int} {w : Nat} {r : List Int} (h : Wr p w r) (hp : 0 < p) (i : Nat) : 0 ≤ ix r i ∧ ix r i < p := by
  by_cases hi : i < r.length
  · rw [ix_get hi]
    exact h.2 _ (List.getElem_mem hi)
  · rw [ix_out (by omega)]
    omega
def ro (R : List (List Int)) (j : Nat) : List Int := R.getD j []
theorem ro_get {R : List (List Int)} {j : Nat} (h : j < R.length) : ro R j = R[j] := by unfold ro; simp [h]
theorem ro_mem {R : List (List Int)} {j : Nat} (h : j < R.length) : ro R j ∈ R := by rw [ro_get h]; exact List.getElem_mem h
theorem mem_ro {R : List (List Int)} {r : List Int} (h : r ∈ R) : ∃ j, j < R.length ∧ ro R j = r := by
  obtain ⟨j, hj, e⟩ := List.getElem_of_mem h
  exact ⟨j, hj, by rw [ro_get hj, e]⟩

inductive Span (p : Int) (w : Nat) (R : List (List Int)) : (Nat → Int) → Prop
  | zero : Span p w R (fun _ => 0)
  | step {v : Nat → Int} (a : Int) (r : List Int) : r ∈ R → Span p w R v → Span p w R (fun c => v c + a * ix r c)
  | cong {u v : Nat → Int} : (∀ c, c < w → Cg p (u c) (v c)) → Span p w R v → Span p w R u
section
variable {p : Int} {w : Nat} {R R' : List (List Int)} {u v : Nat → Int}
theorem Span.one (a : Int) {r : List Int} (h : r ∈ R) : Span p w R (fun c => a * ix r c) :=
  .cong (fun c _ => Cg.of_eq (by show a * ix r c = 0 + a * ix r c; omega)) (.step a r h .zero)
theorem Span.mem {r : List Int} (h : r ∈ R) : Span p w R (ix r) := .cong (fun c _ => Cg.of_eq (by omega)) (Span.one 1 h)
theorem Span.add (hu : Span p w R u) (hv : Span p w R v) : Span p w R (fun c => u c + v c) := by
  induction hv with
  | zero => exact .cong (fun c _ => Cg.of_eq (Int.add_zero (u c))) hu
  | step a r h _ ih => exact .cong (fun c _ => Cg.of_eq (Int.add_assoc _ _ _).symm) (.step a r h ih)
  | cong h _ ih => exact .cong (fun c hc => Cg.refl.add (h c hc)) ih
theorem Span.smul (a : Int) (hu : Span p w R u) : Span p w R (fun c => a * u c) := by
  induction hu with
  | zero => exact .cong (fun c _ => Cg.of_eq (Int.mul_zero a)) .zero
  | step b r h _ ih => exact .cong (fun c _ => Cg.of_eq (by rw [Int.mul_add, Int.mul_assoc])) (.step (a * b) r h ih)
  | cong h _ ih => exact .cong (fun c hc => (h c hc).smul a) ih
theorem Span.trans (hu : Span p w R u) (h : ∀ r ∈ R, Span p w R' (ix r)) : Span p w R' u := by
  induction hu with
  | zero => exact .zero
  | step b r hr _ ih => exact ih.add ((h r hr).smul b)
  | cong h' _ ih => exact .cong h' ih
theorem Span.coef (hu : Span p w R u) : ∃ c : Nat → Int, ∀ i, i < w → Cg p (u i) (LS (List.range R.length) (fun j => c j * ix (ro R j) i)) := by
  induction hu with
  | zero =>
    refine ⟨fun _ => 0, fun i _ => Cg.of_eq ?_⟩
    rw [LS_congr (g := fun _ => 0) fun j _ => Int.zero_mul _, LS_zero]
  | step a r hr _ ih =>
    obtain ⟨c, h⟩ := ih
    obtain ⟨j0, hj0, e0⟩ := mem_ro hr
    refine ⟨fun j => c j + if j = j0 then a else 0, fun i hi => ((h i hi).add (Cg.refl (a := a * ix r i))).trans (Cg.of_eq ?_)⟩
    have e1 : LS (List.range R.length) (fun j => (c j + if j = j0 then a else 0) * ix (ro R j) i) = LS (List.range R.length) (fun j => c j * ix (ro R j) i + if j = j0 then a * ix (ro R j) i else 0) := LS_congr fun j _ => by
      by_cases e : j = j0
      · rw [if_pos e, if_pos e, Int.add_mul]
      · rw [if_neg e, if_neg e, Int.add_zero, Int.add_zero]
    rw [e1, LS_add, LS_delta (f := fun j => a * ix (ro R j) i) List.nodup_range (List.mem_range.mpr hj0), e0]
  | cong h _ ih =>
    obtain ⟨c, h'⟩ := ih
    exact ⟨c, fun i hi => (h i hi).trans (h' i hi)⟩
end

end MW

set_option Elab.async false
set_option linter.all false
/-! Elimination: its state, its invariant, its rank, the kernel. -/
namespace MW

def lessR (p : Int) (r : List Int) (b : Int) (o : List Int) : List Int := List.zipWith (fun x y => (x - b * y) % p) r o
def sclR (p w : Int) (r : List Int) : List Int := r.map (fun x => x * invF p w % p)
def clrR (p : Int) (c : Nat) (row : List Int) (rows : List (List Int)) : List (List Int) := rows.map fun o => lessR p o (ix o c) row
structure RS where
  left : List (List Int)
  found : List (List Int)
  places : List Nat
def newR (p : Int) (l : List (List Int)) (c k : Nat) : List Int := sclR p (ix (ro l k) c) (ro l k)
def nxR (p : Int) (s : RS) (c k : Nat) : RS :=
  ⟨clrR p c (newR p s.left c k) (s.left.eraseIdx k), clrR p c (newR p s.left c k) s.found ++ [newR p s.left c k], s.places ++ [c]⟩
def stepR (p : Int) (s : RS) (c : Nat) : RS :=
  match s.left.findIdx? (fun r => ix r c != 0) with
  | none => s
  | some k => nxR p s c k
def redS (p : Int) (w : Nat) (rows : List (List Int)) : RS := (List.range w).foldl (stepR p) ⟨rows, [], []⟩
def red (p : Int) (w : Nat) (rows : List (List Int)) : List (List Int) := (redS p w rows).found

theorem ix_less {p : Int} {r o : List Int} (h : r.length = o.length) (b : Int) (c : Nat) : ix (lessR p r b o) c = (ix r c - b * ix o c) % p := by
  by_cases hc : c < r.length
  · have h2 : c < o.length := by omega
    have h3 : c < (lessR p r b o).length := by unfold lessR; simp; omega
    rw [ix_get h3, ix_get hc, ix_get h2]
    simp only [lessR, List.getElem_zipWith]
  · have h3 : (lessR p r b o).length ≤ c := by unfold lessR; simp; omega
    rw [ix_out h3, ix_out (by omega), ix_out (by omega)]
    simp
theorem wr_less {p : Int} {w : Nat} {r o : List Int} (hp : 0 < p) (hr : r.length = w) (ho : o.length = w) (b : Int) : Wr p w (lessR p r b o) := by
  refine ⟨by unfold lessR; simp; omega, fun x hx => ?_⟩
  unfold lessR at hx
  rw [List.mem_iff_getElem] at hx
  obtain ⟨i, hi, e⟩ := hx
  simp at e
  rw [← e]
  exact ⟨Int.emod_nonneg _ (by omega), Int.emod_lt_of_pos _ hp⟩
theorem ix_scl {p w : Int} {r : List Int} (c : Nat) : ix (sclR p w r) c = (ix r c * invF p w) % p := by
  by_cases hc : c < r.length
  · have h3 : c < (sclR p w r).length := by unfold sclR; simpa using hc
    rw [ix_get h3, ix_get hc]
    simp only [sclR, List.getElem_map]
  · have h3 : (sclR p w r).length ≤ c := by unfold sclR; simp; omega
    rw [ix_out h3, ix_out (by omega)]
    simp
theorem wr_scl {p v : Int} {w : Nat} {r : List Int} (hp : 0 < p) (hr : r.length = w) : Wr p w (sclR p v r) := by
  refine ⟨by unfold sclR; simpa using hr, fun x hx => ?_⟩
  unfold sclR at hx
  obtain ⟨y, _, e⟩ := List.mem_map.mp hx
  rw [← e]
  exact ⟨Int.emod_nonneg _ (by omega), Int.emod_lt_of_pos _ hp⟩

/-- the invariant ahead of column c -/
structure Good (p : Int) (w : Nat) (rows : List (List Int)) (c : Nat) (s : RS) : Prop where
  wl : ∀ r ∈ s.left, Wr p w r
  wf : ∀ r ∈ s.found, Wr p w r
  zl : ∀ r ∈ s.left, ∀ i, i < c → ix r i = 0
  len : s.found.length = s.places.length
  plt : ∀ q ∈ s.places, q < c
  asc : s.places.Pairwise (· < ·)
  del : ∀ j k, j < s.found.length → k < s.found.length → ix (ro s.found j) (s.places.getD k 0) = if j = k then 1 else 0
  fst : ∀ j i, j < s.found.length → i < s.places.getD j 0 → ix (ro s.found j) i = 0
  cnt : s.left.length + s.found.length = rows.length
  fwd : ∀ r ∈ rows, Span p w (s.left ++ s.found) (ix r)
  bwd : ∀ r ∈ s.left ++ s.found, Span p w rows (ix r)

theorem Good.start {p : Int} {w : Nat} {rows : List (List Int)} (h : ∀ r ∈ rows, Wr p w r) : Good p w rows 0 ⟨rows, [], []⟩ where
  wl := h
  wf := fun r hr => nomatch hr
  zl := fun _ _ i hi => absurd hi (Nat.not_lt_zero i)
  len := rfl
  plt := fun q hq => nomatch hq
  asc := List.Pairwise.nil
  del := fun j k hj _ => absurd hj (Nat.not_lt_zero j)
  fst := fun j i hj _ => absurd hj (Nat.not_lt_zero j)
  cnt := rfl
  fwd := fun r hr => Span.mem (List.mem_append_left _ hr)
  bwd := fun r hr => Span.mem (by simpa using hr)

theorem getD_app_left {l : List Nat} {x k : Nat} (h : k < l.length) : (l ++ [x]).getD k 0 = l.getD k 0 := by simp [List.getD, List.getElem?_append_left h]
theorem getD_app_last {l : List Nat} {x k : Nat} (h : k = l.length) : (l ++ [x]).getD k 0 = x := by subst h; simp [List.getD]
theorem ro_app_left {l : List (List Int)} {x : List Int} {k : Nat} (h : k < l.length) : ro (l ++ [x]) k = ro l k := by simp [ro, List.getD, List.getElem?_append_left h]
theorem ro_app_last {l : List (List Int)} {x : List Int} {k : Nat} (h : k = l.length) : ro (l ++ [x]) k = x := by subst h; simp [ro, List.getD]
theorem ro_map {l : List (List Int)} {f : List Int → List Int} {k : Nat} (h : k < l.length) : ro (l.map f) k = f (ro l k) := by simp [ro, List.getD, h]
theorem getD_mem {l : List Nat} {k : Nat} (h : k < l.length) : l.getD k 0 ∈ l := by
  have e : l.getD k 0 = l[k] := by simp [List.getD, h]
  rw [e]; exact List.getElem_mem h

theorem Good.none {p : Int} {w : Nat} {rows : List (List Int)} {c : Nat} {s : RS} (G : Good p w rows c s) (h : ∀ r ∈ s.left, ix r c = 0) : Good p w rows (c + 1) s :=
  { G with
    zl := fun r hr i hi => by
      by_cases e : i = c
      · rw [e]; exact h r hr
      · exact G.zl r hr i (by omega)
    plt := fun q hq => Nat.lt_succ_of_lt (G.plt q hq) }

theorem Good.some {p : Int} (F : Fp p) {w : Nat} {rows : List (List Int)} {c k : Nat} {s : RS} (G : Good p w rows c s) (hc : c < w) (hk : k < s.left.length) (hz : ix (ro s.left k) c ≠ 0) : Good p w rows (c + 1) (nxR p s c k) := by
  have hp : 0 < p := by have := F.pos; omega
  have hL : ro s.left k ∈ s.left := ro_mem hk
  have wL := G.wl _ hL
  have aL := wL.at hp c
  generalize hR : newR p s.left c k = R
  have wR : Wr p w R := by rw [← hR]; exact wr_scl hp wL.1
  have ixR : ∀ i, ix R i = (ix (ro s.left k) i * invF p (ix (ro s.left k) c)) % p := fun i => by rw [← hR]; exact ix_scl i
  have R1 : ix R c = 1 := by rw [ixR]; exact F.inv _ (by omega) aL.2
  have R0 : ∀ i, i < c → ix R i = 0 := fun i hi => by rw [ixR, G.zl _ hL i hi]; simp
  have ixL : ∀ r, r.length = w → ∀ i, ix (lessR p r (ix r c) R) i = (ix r i - ix r c * ix R i) % p := fun r hr i => ix_less (by rw [hr, wR.1]) _ i
  have one_mod : (1 : Int) % p = 1 := Int.emod_eq_of_lt (by decide) F.pos
  have same : ∀ r, Wr p w r → ∀ i, i < c → ix (lessR p r (ix r c) R) i = ix r i := fun r hr i hi => by
    rw [ixL r hr.1, R0 i hi, Int.mul_zero, Int.sub_zero]
    have := hr.at hp i
    exact Int.emod_eq_of_lt this.1 this.2
  have gone : ∀ r, Wr p w r → ix (lessR p r (ix r c) R) c = 0 := fun r hr => by
    rw [ixL r hr.1, R1, Int.mul_one, Int.sub_self]
    simp
  have memE : ∀ r ∈ s.left.eraseIdx k, r ∈ s.left := fun r hr => List.mem_of_mem_eraseIdx hr
  have lf : (clrR p c R s.found).length = s.found.length := by unfold clrR; simp
  -- spans
  have cgL : Cg p (ix R c) 1 := Cg.of_eq R1
  have backR : Span p w (s.left ++ s.found) (ix R) := by
    refine .cong (v := fun i => invF p (ix (ro s.left k) c) * ix (ro s.left k) i) (fun i _ => ?_) (Span.one _ (List.mem_append_left _ hL))
    rw [ixR, Int.mul_comm (invF p _)]
    exact Cg.emod
  have backLess : ∀ r, Wr p w r → r ∈ s.left ++ s.found → Span p w (s.left ++ s.found) (ix (lessR p r (ix r c) R)) := fun r hr hm => by
    refine .cong (v := fun i => ix r i + (-ix r c) * ix R i) (fun i _ => ?_) ((Span.mem hm).add (backR.smul _))
    rw [ixL r hr.1]
    refine Cg.emod.trans (Cg.of_eq ?_)
    rw [Int.neg_mul]
    omega
  have inN : R ∈ clrR p c R (s.left.eraseIdx k) ++ (clrR p c R s.found ++ [R]) := by simp
  have fwdLess : ∀ r, Wr p w r → lessR p r (ix r c) R ∈ clrR p c R (s.left.eraseIdx k) ++ (clrR p c R s.found ++ [R]) → Span p w (clrR p c R (s.left.eraseIdx k) ++ (clrR p c R s.found ++ [R])) (ix r) := fun r hr hm => by
    refine .cong (v := fun i => ix (lessR p r (ix r c) R) i + ix r c * ix R i) (fun i _ => ?_) ((Span.mem hm).add (Span.one _ inN))
    rw [ixL r hr.1]
    refine Cg.symm (((Cg.emod (p := p)).add Cg.refl).trans (Cg.of_eq ?_))
    omega
  have fwdK : Span p w (clrR p c R (s.left.eraseIdx k) ++ (clrR p c R s.found ++ [R])) (ix (ro s.left k)) := by
    refine .cong (v := fun i => ix (ro s.left k) c * ix R i) (fun i _ => ?_) (Span.one _ inN)
    have e1 : Cg p (ix (ro s.left k) c * ix R i) (ix (ro s.left k) c * (ix (ro s.left k) i * invF p (ix (ro s.left k) c))) := (by rw [ixR]; exact Cg.emod : Cg p (ix R i) (ix (ro s.left k) i * invF p (ix (ro s.left k) c))).smul _
    refine Cg.symm (e1.trans ?_)
    have e2 : ix (ro s.left k) c * (ix (ro s.left k) i * invF p (ix (ro s.left k) c)) = ix (ro s.left k) i * (ix (ro s.left k) c * invF p (ix (ro s.left k) c)) := by
      rw [← Int.mul_assoc, Int.mul_comm (ix (ro s.left k) c), Int.mul_assoc]
    rw [e2]
    have e3 : Cg p (ix (ro s.left k) c * invF p (ix (ro s.left k) c)) 1 := Cg.emod.symm.trans (Cg.of_eq (F.inv _ (by omega) aL.2))
    have e4 := e3.smul (ix (ro s.left k) i)
    rwa [Int.mul_one] at e4
  show Good p w rows (c + 1) ⟨clrR p c (newR p s.left c k) (s.left.eraseIdx k), clrR p c (newR p s.left c k) s.found ++ [newR p s.left c k], s.places ++ [c]⟩
  rw [hR]
  refine ⟨fun r hr => ?_, fun r hr => ?_, fun r hr i hi => ?_, ?_, fun q hq => ?_, ?_, fun j l hj hl => ?_, fun j i hj hi => ?_, ?_, fun r hr => ?_, fun r hr => ?_⟩
  · obtain ⟨o, ho, e⟩ := List.mem_map.mp hr
    rw [← e]
    exact wr_less hp (G.wl o (memE o ho)).1 wR.1 _
  · rcases List.mem_append.mp hr with hr | hr
    · obtain ⟨o, ho, e⟩ := List.mem_map.mp hr
      rw [← e]
      exact wr_less hp (G.wf o ho).1 wR.1 _
    · rw [List.mem_singleton.mp hr]
      exact wR
  · obtain ⟨o, ho, e⟩ := List.mem_map.mp hr
    rw [← e]
    have wo := G.wl o (memE o ho)
    by_cases ei : i = c
    · rw [ei]; exact gone o wo
    · rw [same o wo i (by omega)]
      exact G.zl o (memE o ho) i (by omega)
  · show (clrR p c R s.found ++ [R]).length = (s.places ++ [c]).length
    rw [List.length_append, List.length_append, lf, G.len]
    rfl
  · rcases List.mem_append.mp hq with hq | hq
    · exact Nat.lt_succ_of_lt (G.plt q hq)
    · rw [List.mem_singleton.mp hq]
      exact Nat.lt_succ_self c
  · refine List.pairwise_append.mpr ⟨G.asc, List.pairwise_singleton _ _, fun a ha b hb => ?_⟩
    rw [List.mem_singleton.mp hb]
    exact G.plt a ha
  · have hj' : j < s.found.length + 1 := by
      have : j < (clrR p c R s.found ++ [R]).length := hj
      rw [List.length_append, lf] at this
      exact this
    have hl' : l < s.found.length + 1 := by
      have : l < (clrR p c R s.found ++ [R]).length := hl
      rw [List.length_append, lf] at this
      exact this
    have hlen := G.len
    show ix (ro (clrR p c R s.found ++ [R]) j) ((s.places ++ [c]).getD l 0) = if j = l then 1 else 0
    by_cases ej : j < s.found.length
    · have wj := G.wf _ (ro_mem ej)
      rw [ro_app_left (by rw [lf]; exact ej)]
      have e1 : ro (clrR p c R s.found) j = lessR p (ro s.found j) (ix (ro s.found j) c) R := ro_map ej
      rw [e1]
      by_cases el : l < s.found.length
      · rw [getD_app_left (by omega), same _ wj _ (G.plt _ (getD_mem (by omega)))]
        exact G.del j l ej el
      · rw [getD_app_last (by omega), gone _ wj, if_neg (by omega)]
    · rw [ro_app_last (by rw [lf]; omega)]
      by_cases el : l < s.found.length
      · rw [getD_app_left (by omega), R0 _ (G.plt _ (getD_mem (by omega))), if_neg (by omega)]
      · rw [getD_app_last (by omega), R1, if_pos (by omega)]
  · have hj' : j < s.found.length + 1 := by
      have : j < (clrR p c R s.found ++ [R]).length := hj
      rw [List.length_append, lf] at this
      exact this
    have hlen := G.len
    have hi' : i < (s.places ++ [c]).getD j 0 := hi
    show ix (ro (clrR p c R s.found ++ [R]) j) i = 0
    by_cases ej : j < s.found.length
    · have wj := G.wf _ (ro_mem ej)
      rw [getD_app_left (by omega)] at hi'
      have hpl := G.plt _ (getD_mem (l := s.places) (k := j) (by omega))
      rw [ro_app_left (by rw [lf]; exact ej)]
      have e1 : ro (clrR p c R s.found) j = lessR p (ro s.found j) (ix (ro s.found j) c) R := ro_map ej
      rw [e1, same _ wj _ (by omega)]
      exact G.fst j i ej hi'
    · rw [getD_app_last (by omega)] at hi'
      rw [ro_app_last (by rw [lf]; omega)]
      exact R0 i hi'
  · show (clrR p c R (s.left.eraseIdx k)).length + (clrR p c R s.found ++ [R]).length = rows.length
    have e1 : (clrR p c R (s.left.eraseIdx k)).length = s.left.length - 1 := by unfold clrR; rw [List.length_map, List.length_eraseIdx_of_lt hk]
    rw [e1, List.length_append, lf, List.length_singleton]
    have := G.cnt
    omega
  · refine (G.fwd r hr).trans fun o ho => ?_
    rcases List.mem_append.mp ho with ho | ho
    · obtain ⟨j, hj, e⟩ := mem_ro ho
      by_cases ejk : j = k
      · rw [← e, ejk]
        exact fwdK
      · refine fwdLess o (G.wl o ho) (List.mem_append_left _ (List.mem_map.mpr ⟨o, ?_, rfl⟩))
        rw [List.mem_eraseIdx_iff_getElem]
        exact ⟨j, hj, ejk, by rw [← e, ro_get hj]⟩
    · exact fwdLess o (G.wf o ho) (List.mem_append_right _ (List.mem_append_left _ (List.mem_map.mpr ⟨o, ho, rfl⟩)))
  · have key : Span p w (s.left ++ s.found) (ix r) := by
      rcases List.mem_append.mp hr with hr | hr
      · obtain ⟨o, ho, e⟩ := List.mem_map.mp hr
        rw [← e]
        exact backLess o (G.wl o (memE o ho)) (List.mem_append_left _ (memE o ho))
      · rcases List.mem_append.mp hr with hr | hr
        · obtain ⟨o, ho, e⟩ := List.mem_map.mp hr
          rw [← e]
          exact backLess o (G.wf o ho) (List.mem_append_right _ ho)
        · rw [List.mem_singleton.mp hr]
          exact backR
    exact key.trans G.bwd

theorem Good.step {p : Int} (F : Fp p) {w : Nat} {rows : List (List Int)} {c : Nat} {s : RS} (G : Good p w rows c s) (hc : c < w) : Good p w rows (c + 1) (stepR p s c) := by
  unfold stepR
  cases h : s.left.findIdx? (fun r => ix r c != 0) with
  | none =>
    refine G.none fun r hr => ?_
    have := List.findIdx?_eq_none_iff.mp h r hr
    simpa using this
  | some k =>
    obtain ⟨hk, h1, _⟩ := List.findIdx?_eq_some_iff_getElem.mp h
    refine G.some F hc hk ?_
    rw [ro_get hk]
    simpa using h1
theorem Good.run {p : Int} (F : Fp p) {w : Nat} {rows : List (List Int)} (h : ∀ r ∈ rows, Wr p w r) : ∀ c, c ≤ w → Good p w rows c ((List.range c).foldl (stepR p) ⟨rows, [], []⟩)
  | 0, _ => Good.start h
  | c + 1, hc => by
    rw [List.range_succ, List.foldl_append]
    exact (Good.run F h c (by omega)).step F (by omega)
theorem good {p : Int} (F : Fp p) {w : Nat} {rows : List (List Int)} (h : ∀ r ∈ rows, Wr p w r) : Good p w rows w (redS p w rows) := Good.run F h w (Nat.le_refl w)

section
variable {p : Int} (F : Fp p) {w : Nat} {rows : List (List Int)} {s : RS}
include F
theorem Good.fwd' (G : Good p w rows w s) : ∀ r ∈ rows, Span p w s.found (ix r) := fun r hr => (G.fwd r hr).trans fun o ho => by
  rcases List.mem_append.mp ho with ho | ho
  · exact .cong (fun i hi => Cg.of_eq (G.zl o ho i hi)) .zero
  · exact Span.mem ho
end

/-! ### turning about -/
def tr (w : Nat) (rows : List (List Int)) : List (List Int) := (List.range w).map fun c => rows.map fun r => ix r c
theorem tr_len (w : Nat) (rows : List (List Int)) : (tr w rows).length = w := by unfold tr; simp
theorem ro_tr {w : Nat} {rows : List (List Int)} {c : Nat} (h : c < w) : ro (tr w rows) c = rows.map fun r => ix r c := by
  rw [ro_get (by rw [tr_len]; exact h)]
  unfold tr
  simp
theorem ix_tr {w : Nat} {rows : List (List Int)} {c i : Nat} (h : c < w) (hi : i < rows.length) : ix (ro (tr w rows) c) i = ix (ro rows i) c := by
  rw [ro_tr h, ix_get (by simpa using hi), ro_get hi]
  simp
theorem wr_tr {p : Int} (hp : 0 < p) {w : Nat} {rows : List (List Int)} (h : ∀ r ∈ rows, Wr p w r) : ∀ r ∈ tr w rows, Wr p rows.length r := fun r hr => by
  obtain ⟨c, hc, e⟩ := List.mem_map.mp hr
  rw [← e]
  refine ⟨by simp, fun x hx => ?_⟩
  obtain ⟨o, ho, e2⟩ := List.mem_map.mp hx
  rw [← e2]
  exact (h o ho).at hp c
theorem tr_tr {p : Int} {w : Nat} {rows : List (List Int)} (h : ∀ r ∈ rows, Wr p w r) : tr rows.length (tr w rows) = rows := by
  refine List.ext_getElem (tr_len _ _) fun i h1 h2 => ?_
  have e1 : (tr rows.length (tr w rows))[i] = ro (tr rows.length (tr w rows)) i := (ro_get h1).symm
  rw [e1, ro_tr h2]
  refine List.ext_getElem (by rw [List.length_map, tr_len, (h _ (List.getElem_mem h2)).1]) fun c h3 h4 => ?_
  have hc : c < w := by rw [List.length_map, tr_len] at h3; exact h3
  rw [List.getElem_map]
  have e2 : (tr w rows)[c]'(by rw [tr_len]; exact hc) = ro (tr w rows) c := (ro_get _).symm
  rw [e2, ix_tr hc h2, ro_get h2, ix_get h4]
theorem rank_le {p : Int} (F : Fp p) {w : Nat} {rows : List (List Int)} (h : ∀ r ∈ rows, Wr p w r) : (red p rows.length (tr w rows)).length ≤ (red p w rows).length := by
  have hp : 0 < p := by have := F.pos; omega
  have G := good F h
  have G' := good F (wr_tr hp h)
  show (redS p rows.length (tr w rows)).found.length ≤ (redS p w rows).found.length
  generalize redS p w rows = s at G ⊢
  generalize redS p rows.length (tr w rows) = s' at G' ⊢
  -- A[c][i] = sum of M c k * R k i
  have hM : ∀ c, ∃ m : Nat → Int, c < rows.length → ∀ i, i < w → Cg p (ix (ro rows c) i) (LS (List.range s.found.length) (fun k => m k * ix (ro s.found k) i)) := fun c => by
    by_cases hc : c < rows.length
    · obtain ⟨m, hm⟩ := (G.fwd' F _ (ro_mem hc)).coef
      exact ⟨m, fun _ => hm⟩
    · exact ⟨fun _ => 0, fun z => absurd z hc⟩
  obtain ⟨M, hM⟩ := Classical.skolem.mp hM
  have hC : ∀ j, ∃ d : Nat → Int, j < s'.found.length → ∀ c, c < rows.length → Cg p (ix (ro s'.found j) c) (LS (List.range w) (fun i => d i * ix (ro rows c) i)) := fun j => by
    by_cases hj : j < s'.found.length
    · obtain ⟨d, hd⟩ := (G'.bwd _ (List.mem_append_right _ (ro_mem hj))).coef
      refine ⟨d, fun _ c hc => (hd c hc).trans (Cg.of_eq ?_)⟩
      rw [tr_len]
      exact LS_congr fun i hi => by rw [ix_tr (List.mem_range.mp hi) hc]
    · exact ⟨fun _ => 0, fun z => absurd z hj⟩
  obtain ⟨C, hC⟩ := Classical.skolem.mp hC
  refine sq_le F (fun j k => LS (List.range w) (fun i => C j i * ix (ro s.found k) i)) (fun k l => M (s'.places.getD l 0) k) fun j hj l hl => ?_
  have hq : s'.places.getD l 0 < rows.length := G'.plt _ (getD_mem (by have := G'.len; omega))
  refine Cg.trans ?_ (Cg.of_eq (G'.del j l hj hl))
  refine Cg.symm ((hC j hj _ hq).trans ?_)
  have c1 : Cg p (LS (List.range w) fun i => C j i * ix (ro rows (s'.places.getD l 0)) i) (LS (List.range w) fun i => C j i * LS (List.range s.found.length) (fun k => M (s'.places.getD l 0) k * ix (ro s.found k) i)) :=
    LS_cg fun i hi => (hM _ hq i (List.mem_range.mp hi)).smul _
  refine c1.trans (Cg.of_eq ?_)
  have e1 : LS (List.range w) (fun i => C j i * LS (List.range s.found.length) (fun k => M (s'.places.getD l 0) k * ix (ro s.found k) i)) = LS (List.range w) (fun i => LS (List.range s.found.length) (fun k => C j i * (M (s'.places.getD l 0) k * ix (ro s.found k) i))) := LS_congr fun i _ => (LS_mul _ _ _).symm
  rw [e1, LS_comm]
  refine LS_congr fun k _ => ?_
  rw [← LS_mulr]
  exact LS_congr fun i _ => by rw [Int.mul_comm (M _ k), Int.mul_assoc]
/-- the rank of the turned table -/
theorem rank_tr {p : Int} (F : Fp p) {w : Nat} {rows : List (List Int)} (h : ∀ r ∈ rows, Wr p w r) : (red p rows.length (tr w rows)).length = (red p w rows).length := by
  have hp : 0 < p := by have := F.pos; omega
  refine Nat.le_antisymm (rank_le F h) ?_
  have q := rank_le F (wr_tr hp h)
  rw [tr_len, tr_tr h] at q
  exact q

/-! ### the kernel -/
def unitC (w f : Nat) : List Int := (List.range w).map fun i => if i = f then 1 else 0
def fcol (p : Int) (w : Nat) (R : List (List Int)) (P : List Nat) (f : Nat) : List Int := (R.zip P).foldl (fun col rq => col.set rq.2 ((-(ix rq.1 f)) % p)) (unitC w f)
def freeP (w : Nat) (P : List Nat) : List Nat := (List.range w).filter fun f => !P.contains f
def freeC (p : Int) (w : Nat) (s : RS) : List (List Int) := (freeP w s.places).map (fcol p w s.found s.places)
def ker (p : Int) (w : Nat) (rows : List (List Int)) : List (List Int) := red p w (freeC p w (redS p w rows))
theorem ix_unit {w f i : Nat} (h : i < w) : ix (unitC w f) i = if i = f then 1 else 0 := by
  rw [ix_get (by unfold unitC; simpa using h)]
  unfold unitC
  simp
theorem fold_set {p : Int} {f : Nat} {w : Nat} (hp : 0 < p) : ∀ (l : List (List Int × Nat)) (col : List Int), Wr p w col →
    Wr p w (l.foldl (fun col rq => col.set rq.2 ((-(ix rq.1 f)) % p)) col) ∧ ∀ i, (∀ rq ∈ l, rq.2 ≠ i) → ix (l.foldl (fun col rq => col.set rq.2 ((-(ix rq.1 f)) % p)) col) i = ix col i
  | [], col, h => ⟨h, fun _ _ => rfl⟩
  | rq :: l, col, h => by
    have hw : Wr p w (col.set rq.2 ((-(ix rq.1 f)) % p)) := by
      refine ⟨by rw [List.length_set]; exact h.1, fun x hx => ?_⟩
      rcases List.mem_or_eq_of_mem_set hx with hx | hx
      · exact h.2 x hx
      · rw [hx]
        exact ⟨Int.emod_nonneg _ (by omega), Int.emod_lt_of_pos _ hp⟩
    obtain ⟨h1, h2⟩ := fold_set (f := f) hp l _ hw
    refine ⟨h1, fun i hi => ?_⟩
    rw [List.foldl_cons, h2 i fun q hq => hi q (List.mem_cons_of_mem _ hq)]
    have ne := hi rq List.mem_cons_self
    unfold ix
    simp [List.getD, List.getElem?_set, ne]
theorem wr_unit {p : Int} (hp : 1 < p) {w f : Nat} : Wr p w (unitC w f) := by
  refine ⟨by unfold unitC; simp, fun x hx => ?_⟩
  unfold unitC at hx
  obtain ⟨i, _, e⟩ := List.mem_map.mp hx
  rw [← e]
  split <;> omega
theorem wr_fcol {p : Int} (hp : 1 < p) {w : Nat} {R : List (List Int)} {P : List Nat} {f : Nat} : Wr p w (fcol p w R P f) := (fold_set (by omega) _ _ (wr_unit hp)).1
theorem ix_fcol {p : Int} (hp : 1 < p) {w : Nat} {R : List (List Int)} {P : List Nat} {f i : Nat} (hi : i < w) (hP : i ∉ P) : ix (fcol p w R P f) i = if i = f then 1 else 0 := by
  have q := (fold_set (p := p) (f := f) (w := w) (by omega) (R.zip P) (unitC w f) (wr_unit hp)).2 i fun rq hq e => hP (by
    rw [← e]
    exact (List.of_mem_zip hq).2)
  rw [← ix_unit hi]
  exact q
theorem freeC_wr {p : Int} (hp : 1 < p) {w : Nat} {s : RS} : ∀ r ∈ freeC p w s, Wr p w r := fun r hr => by
  obtain ⟨f, _, e⟩ := List.mem_map.mp hr
  rw [← e]
  exact wr_fcol hp
theorem mem_freeP {w : Nat} {P : List Nat} {f : Nat} : f ∈ freeP w P ↔ f < w ∧ f ∉ P := by
  unfold freeP
  simp [List.mem_filter]
theorem freeP_nodup {w : Nat} {P : List Nat} : (freeP w P).Nodup := List.nodup_range.filter _
theorem freeP_len {w : Nat} {P : List Nat} (nd : P.Nodup) (h : ∀ q ∈ P, q < w) : (freeP w P).length + P.length = w := by
  have e : ((List.range w).filter fun f => P.contains f).length = P.length := by
    refine (List.Perm.length_eq ?_)
    rw [List.perm_ext_iff_of_nodup (List.nodup_range.filter _) nd]
    intro a
    simp only [List.mem_filter, List.mem_range, List.contains_eq_mem, decide_eq_true_eq]
    exact ⟨fun z => z.2, fun z => ⟨h a z, z⟩⟩
  have q := List.length_eq_countP_add_countP (fun f => P.contains f) (l := List.range w)
  rw [List.countP_eq_length_filter, List.countP_eq_length_filter, List.length_range, e] at q
  unfold freeP
  have e2 : ((List.range w).filter fun a => !P.contains a) = (List.range w).filter fun a => decide ¬(P.contains a = true) := by
    congr 1
    funext a
    cases P.contains a <;> simp
  rw [e2]
  omega
/-- as many in the kernel as are wanting -/
theorem ker_len {p : Int} (F : Fp p) {w : Nat} {rows : List (List Int)} (h : ∀ r ∈ rows, Wr p w r) : (ker p w rows).length + (red p w rows).length = w := by
  have G := good F h
  show (red p w (freeC p w (redS p w rows))).length + (redS p w rows).found.length = w
  generalize redS p w rows = s at G ⊢
  have K := good F (freeC_wr F.pos (w := w) (s := s))
  show (redS p w (freeC p w s)).found.length + s.found.length = w
  have hfc : (freeC p w s).length = (freeP w s.places).length := by unfold freeC; simp
  have nd : s.places.Nodup := G.asc.imp fun h => Nat.ne_of_lt h
  have hfl := freeP_len nd G.plt
  have hlen := G.len
  generalize redS p w (freeC p w s) = t at K ⊢
  have up : t.found.length ≤ (freeP w s.places).length := by have := K.cnt; omega
  have dn : (freeP w s.places).length ≤ t.found.length := by
    have hM : ∀ i, ∃ m : Nat → Int, i < (freeC p w s).length → ∀ c, c < w → Cg p (ix (ro (freeC p w s) i) c) (LS (List.range t.found.length) (fun k => m k * ix (ro t.found k) c)) := fun i => by
      by_cases hi : i < (freeC p w s).length
      · obtain ⟨m, hm⟩ := (K.fwd' F _ (ro_mem hi)).coef
        exact ⟨m, fun _ => hm⟩
      · exact ⟨fun _ => 0, fun z => absurd z hi⟩
    obtain ⟨M, hM⟩ := Classical.skolem.mp hM
    refine sq_le F M (fun k l => ix (ro t.found k) ((freeP w s.places).getD l 0)) fun i hi l hl => ?_
    have ml : (freeP w s.places).getD l 0 ∈ freeP w s.places := getD_mem hl
    have ml' := mem_freeP.mp ml
    refine Cg.trans (Cg.symm (hM i (by omega) _ ml'.1)) (Cg.of_eq ?_)
    have e1 : ro (freeC p w s) i = fcol p w s.found s.places ((freeP w s.places).getD i 0) := by
      rw [ro_get (by omega)]
      unfold freeC
      simp [List.getD, hi]
    rw [e1, ix_fcol F.pos ml'.1 ml'.2]
    have e2 : ((freeP w s.places).getD l 0 = (freeP w s.places).getD i 0) ↔ i = l := by
      have g1 : (freeP w s.places).getD l 0 = (freeP w s.places)[l] := by simp [List.getD, hl]
      have g2 : (freeP w s.places).getD i 0 = (freeP w s.places)[i] := by simp [List.getD, hi]
      rw [g1, g2]
      exact ⟨fun z => ((List.getElem_inj freeP_nodup).mp z).symm, fun z => by subst z; rfl⟩
    by_cases z : i = l
    · rw [if_pos z, if_pos (e2.mpr z)]
    · rw [if_neg z, if_neg fun q => z (e2.mp q)]
  omega
end MW

set_option Elab.async false
set_option linter.all false
set_option maxRecDepth 100000
set_option maxHeartbeats 2000000
/-! Heaps in two parts: G, that never changes, and F, what the running defs still change. -/
namespace MW
open PySem PySem.Spec PyProof.Rows L2

abbrev Fg := PySem.W.Frag
structure At (G F H : Hp) : Prop where
  g : Same G H
  f : Same F H
  d : ∀ a o, F a = some o → G a = none
  t : ∀ a o, G a = some o → ∀ ps, o ≠ .tbl ps
def del (F : Hp) (l : Addr) : Hp := fun b => if b = l then none else F b
theorem del_same {F : Hp} {l : Addr} : del F l l = none := by unfold del; rw [if_pos rfl]
theorem del_ne {F : Hp} {l b : Addr} (h : b ≠ l) : del F l b = F b := by unfold del; rw [if_neg h]
theorem del_sub {F : Hp} {l : Addr} : Same (del F l) F := fun b o e => by
  by_cases h : b = l
  · rw [h, del_same] at e; cases e
  · rw [del_ne h] at e; exact e
theorem same_none {G H : Hp} (s : Same G H) {p : Addr} (h : H p = none) : G p = none := s.free h
theorem same_new {G : Hp} {p : Addr} {o : HO} (h : G p = none) : Same G (upd G p o) := fun b u e => by
  rw [upd_ne (ne_of_none e h)]; exact e
theorem upd_del {F : Hp} {p : Addr} {o : HO} (h : F p = none) : del (upd F p o) p = F := by
  funext b
  by_cases e : b = p
  · rw [e, del_same, h]
  · rw [del_ne e, upd_ne e]
section
variable {G F H L : Hp} {p l : Addr} {o u : HO}
theorem At.nG (A : At G F H) (h : H p = none) : G p = none := same_none A.g h
theorem At.nF (A : At G F H) (h : H p = none) : F p = none := same_none A.f h
theorem At.new (A : At G F H) (h : H p = none) (ho : ∀ ps, o ≠ .tbl ps := by exact fun _ z => nomatch z) : At (upd G p o) F (upd H p o) where
  g := fun b u e => by
    by_cases q : b = p
    · rw [q, upd_same] at e ⊢; exact e
    · rw [upd_ne q] at e ⊢; exact A.g b u e
  f := fun b u e => by rw [upd_ne (ne_of_none (A.f b u e) h)]; exact A.f b u e
  d := fun b u e => by rw [upd_ne (ne_of_none (A.f b u e) h)]; exact A.d b u e
  t := fun b u e => by
    by_cases q : b = p
    · rw [q, upd_same] at e; cases e; exact ho
    · rw [upd_ne q] at e; exact A.t b u e
theorem At.newF (A : At G F H) (h : H p = none) : At G (upd F p o) (upd H p o) where
  g := fun b u e => by rw [upd_ne (ne_of_none (A.g b u e) h)]; exact A.g b u e
  f := fun b u e => by
    by_cases q : b = p
    · rw [q, upd_same] at e ⊢; exact e
    · rw [upd_ne q] at e ⊢; exact A.f b u e
  d := fun b u e => by
    by_cases q : b = p
    · rw [q]; exact A.nG h
    · rw [upd_ne q] at e; exact A.d b u e
  t := A.t
theorem At.set (A : At G F H) (h : F l = some u) : At G (upd F l o) (upd H l o) where
  g := fun b v e => by
    have q : b ≠ l := fun z => by rw [z, A.d l u h] at e; cases e
    rw [upd_ne q]; exact A.g b v e
  f := fun b v e => by
    by_cases q : b = l
    · rw [q, upd_same] at e ⊢; exact e
    · rw [upd_ne q] at e ⊢; exact A.f b v e
  d := fun b v e => by
    by_cases q : b = l
    · rw [q]; exact A.d l u h
    · rw [upd_ne q] at e; exact A.d b v e
  t := A.t
theorem At.freeze (A : At G F H) (h : F l = some o) (ho : ∀ ps, o ≠ .tbl ps := by exact fun _ z => nomatch z) : At (upd G l o) (del F l) H where
  g := fun b v e => by
    by_cases q : b = l
    · rw [q, upd_same] at e; cases e; rw [q]; exact A.f l _ h
    · rw [upd_ne q] at e; exact A.g b v e
  f := fun b v e => A.f b v (del_sub b v e)
  d := fun b v e => by
    by_cases q : b = l
    · rw [q, del_same] at e; cases e
    · rw [upd_ne q]; exact A.d b v (del_sub b v e)
  t := fun b v e => by
    by_cases q : b = l
    · rw [q, upd_same] at e; cases e; exact ho
    · rw [upd_ne q] at e; exact A.t b v e
theorem At.freezeN (A : At G (upd F l o) H) (h : F l = none) (ho : ∀ ps, o ≠ .tbl ps := by exact fun _ z => nomatch z) : At (upd G l o) F H := by
  have q := A.freeze upd_same ho
  rwa [upd_del h] at q
theorem At.drop (A : At G F H) (s : Same L F) : At G L H := ⟨A.g, fun b o e => A.f b o (s b o e), fun b o e => A.d b o (s b o e), A.t⟩
theorem At.gone (A : At G (upd F l o) H) (h : F l = none) : At G F H := A.drop (same_new h)
theorem At.ne (A : At G F H) (h : F l = some u) : G l = none := A.d l u h
end

/-! ### what a value is -/
abbrev Rel (α : Type) := Hp → V → α → Prop
class Mn {α : Type} (R : Rel α) : Prop where
  mn' : ∀ {G G' : Hp} {v : V} {x : α}, Same G G' → R G v x → R G' v x
theorem mn {α : Type} {R : Rel α} [i : Mn R] {G G' : Hp} {v : V} {x : α} (e : Same G G') (h : R G v x) : R G' v x := i.mn' e h
def RI : Rel Int := fun _ v n => v = .int n
def RB : Rel Bool := fun _ v b => v = .bl b
def RStr : Rel Str := fun _ v b => v = .str b
def RX : Rel V := fun _ v x => v = x
theorem rdS {G G' : Hp} {a : Addr} {u : HO} (e : Same G G') (h : Rd G a u) : Rd G' a u := by
  rcases h with h | ⟨o, h⟩
  · exact Or.inl (e a _ h)
  · exact Or.inr ⟨o, e a _ h⟩
theorem sqtS {K : Fg} {G G' : Hp} {a : Addr} {xs : List V} (e : Same G G') (h : SqT K G a xs) : SqT K G' a xs := by
  rcases h with h | h
  · exact Or.inl (rdS e h)
  · exact Or.inr h
theorem sqlS {K : Fg} {G G' : Hp} {a : Addr} {xs : List V} (e : Same G G') (h : SqL K G a xs) : SqL K G' a xs := e.seq h
def RT (K : Fg) {α : Type} (R : Rel α) : Rel (List α) := fun G v xs => ∃ a vs, v = .ref a ∧ SqT K G a vs ∧ Paired (R G) vs xs
def RL (K : Fg) {α : Type} (R : Rel α) : Rel (List α) := fun G v xs => ∃ a vs, v = .ref a ∧ SqL K G a vs ∧ Paired (R G) vs xs
def RP (K : Fg) {α β : Type} (R : Rel α) (S : Rel β) : Rel (α × β) := fun G v x => ∃ a v1 v2, v = .ref a ∧ SqT K G a [v1, v2] ∧ R G v1 x.1 ∧ S G v2 x.2
def R3 (K : Fg) {α β γ : Type} (R : Rel α) (S : Rel β) (T : Rel γ) : Rel (α × β × γ) := fun G v x => ∃ a v1 v2 v3, v = .ref a ∧ SqT K G a [v1, v2, v3] ∧ R G v1 x.1 ∧ S G v2 x.2.1 ∧ T G v3 x.2.2
instance : Mn RI := ⟨fun _ h => h⟩
instance : Mn RB := ⟨fun _ h => h⟩
instance : Mn RStr := ⟨fun _ h => h⟩
instance : Mn RX := ⟨fun _ h => h⟩
theorem pairedS {α : Type} {R : Rel α} [Mn R] {G G' : Hp} (e : Same G G') {vs : List V} {xs : List α} (h : Paired (R G) vs xs) : Paired (R G') vs xs := Paired.mapP h fun _ _ q => mn e q
instance {K : Fg} {α : Type} {R : Rel α} [Mn R] : Mn (RT K R) := ⟨fun e ⟨a, vs, h1, h2, h3⟩ => ⟨a, vs, h1, sqtS e h2, pairedS e h3⟩⟩
instance {K : Fg} {α : Type} {R : Rel α} [Mn R] : Mn (RL K R) := ⟨fun e ⟨a, vs, h1, h2, h3⟩ => ⟨a, vs, h1, sqlS e h2, pairedS e h3⟩⟩
instance {K : Fg} {α β : Type} {R : Rel α} {S : Rel β} [Mn R] [Mn S] : Mn (RP K R S) := ⟨fun e ⟨a, v1, v2, h1, h2, h3, h4⟩ => ⟨a, v1, v2, h1, sqtS e h2, mn e h3, mn e h4⟩⟩
instance {K : Fg} {α β γ : Type} {R : Rel α} {S : Rel β} {T : Rel γ} [Mn R] [Mn S] [Mn T] : Mn (R3 K R S T) := ⟨fun e ⟨a, v1, v2, v3, h1, h2, h3, h4, h5⟩ => ⟨a, v1, v2, v3, h1, sqtS e h2, mn e h3, mn e h4, mn e h5⟩⟩
theorem Paired.len {α β : Type} {R : α → β → Prop} {xs : List α} {ys : List β} (h : Paired R xs ys) : xs.length = ys.length := h.length
theorem pget {α β : Type} {R : α → β → Prop} : ∀ {xs : List α} {ys : List β} {i : Nat} {y : β}, Paired R xs ys → ys[i]? = some y → ∃ x, xs[i]? = some x ∧ R x y
  | _, _, _, _, .nil, e => by simp at e
  | _, _, 0, _, .cons r _, e => by simp at e; subst e; exact ⟨_, rfl, r⟩
  | _, _, i + 1, y, .cons _ t, e => by
    obtain ⟨u, h1, h2⟩ := pget (i := i) (y := y) t (by simpa using e)
    exact ⟨u, by simpa using h1, h2⟩
theorem pget' {α β : Type} {R : α → β → Prop} : ∀ {xs : List α} {ys : List β} {i : Nat} {x : α}, Paired R xs ys → xs[i]? = some x → ∃ y, ys[i]? = some y ∧ R x y
  | _, _, _, _, .nil, e => by simp at e
  | _, _, 0, _, .cons r _, e => by simp at e; subst e; exact ⟨_, rfl, r⟩
  | _, _, i + 1, y, .cons _ t, e => by
    obtain ⟨u, h1, h2⟩ := pget' (i := i) (x := y) t (by simpa using e)
    exact ⟨u, by simpa using h1, h2⟩
theorem papp {α β : Type} {R : α → β → Prop} : ∀ {xs xs' : List α} {ys ys' : List β}, Paired R xs ys → Paired R xs' ys' → Paired R (xs ++ xs') (ys ++ ys')
  | _, _, _, _, .nil, h => h
  | _, _, _, _, .cons r t, h => .cons r (papp t h)
theorem pone {α β : Type} {R : α → β → Prop} {x : α} {y : β} (h : R x y) : Paired R [x] [y] := .cons h .nil
theorem pset {α β : Type} {R : α → β → Prop} {x : α} {y : β} (r : R x y) : ∀ {xs : List α} {ys : List β} (i : Nat), Paired R xs ys → Paired R (xs.set i x) (ys.set i y)
  | _, _, _, .nil => .nil
  | _, _, 0, .cons _ t => .cons r t
  | _, _, i + 1, .cons q t => .cons q (pset r i t)
theorem perase {α β : Type} {R : α → β → Prop} : ∀ {xs : List α} {ys : List β} (i : Nat), Paired R xs ys → Paired R (xs.eraseIdx i) (ys.eraseIdx i)
  | _, _, _, .nil => .nil
  | _, _, 0, .cons _ t => t
  | _, _, i + 1, .cons q t => .cons q (perase i t)
theorem ptake {α β : Type} {R : α → β → Prop} : ∀ {xs : List α} {ys : List β} (i : Nat), Paired R xs ys → Paired R (xs.take i) (ys.take i)
  | _, _, 0, _ => by simpa using Paired.nil
  | _, _, i + 1, .nil => by simpa using Paired.nil
  | _, _, i + 1, .cons q t => .cons q (ptake i t)
theorem pdrop {α β : Type} {R : α → β → Prop} : ∀ {xs : List α} {ys : List β} (i : Nat), Paired R xs ys → Paired R (xs.drop i) (ys.drop i)
  | _, _, 0, h => h
  | _, _, i + 1, .nil => by simpa using Paired.nil
  | _, _, i + 1, .cons q t => pdrop i t
theorem pints {G : Hp} : ∀ {vs : List V} {ns : List Int}, Paired (RI G) vs ns → vs = ns.map V.int
  | _, _, .nil => rfl
  | _, _, .cons r t => by rw [pints t]; cases r; rfl
theorem ints_p {G : Hp} : ∀ (ns : List Int), Paired (RI G) (ns.map V.int) ns
  | [] => .nil
  | n :: ns => .cons rfl (ints_p ns)
theorem pbools {G : Hp} : ∀ {vs : List V} {ns : List Bool}, Paired (RB G) vs ns → vs = ns.map V.bl
  | _, _, .nil => rfl
  | _, _, .cons r t => by rw [pbools t]; cases r; rfl

/-! ### what evaluates to what, and leaves all as it was -/
def Ev {α : Type} (te : TE) (σ : L2.St) (G L : Hp) (R : Rel α) (x : α) : Prop :=
  ∀ G1 F H, Same G G1 → Same L F → At G1 F H → ∀ Q : VK, (∀ v G2 H2, Same G1 G2 → At G2 F H2 → R G2 v x → Q v H2) → te σ H Q
def EvT (tt : TT) (σ : L2.St) (G L : Hp) (b : Bool) : Prop :=
  ∀ G1 F H, Same G G1 → Same L F → At G1 F H → ∀ Q : Bool → Hp → Prop, (∀ G2 H2, Same G1 G2 → At G2 F H2 → Q b H2) → tt σ H Q
def EvA (ta : TA) (σ : L2.St) (G L : Hp) (P : Hp → List V → Prop) : Prop :=
  ∀ G1 F H, Same G G1 → Same L F → At G1 F H → ∀ Q : List V → Hp → Prop, (∀ vs G2 H2, Same G1 G2 → At G2 F H2 → P G2 vs → Q vs H2) → ta σ H Q
/-- a new list that may still be changed -/
def EvF {α : Type} (te : TE) (σ : L2.St) (G L : Hp) (R : Rel α) (xs : List α) : Prop :=
  ∀ G1 F H, Same G G1 → Same L F → At G1 F H → ∀ Q : VK, (∀ D vs G2 H2, Same G1 G2 → F D = none → G2 D = none → At G2 (upd F D (.lst vs)) H2 → Paired (R G2) vs xs → Q (.ref D) H2) → te σ H Q
def no : Hp := fun _ => none
theorem no_sub {F : Hp} : Same no F := fun _ _ e => nomatch e
section
variable {α β γ : Type} {K : Fg} {σ : L2.St} {G G' L L' : Hp} {ta tb te tx : TE} {t u : TT} {x : α} {y : β} {z : γ} {v : V} {R : Rel α} {S : Rel β} {T : Rel γ}
theorem Ev.mono (h : Ev te σ G L R x) (e : Same G G') : Ev te σ G' L R x := fun G1 F H a => h G1 F H (e.trans a)
theorem EvT.mono {b : Bool} (h : EvT t σ G L b) (e : Same G G') : EvT t σ G' L b := fun G1 F H a => h G1 F H (e.trans a)
theorem EvA.mono {ta : TA} {P : Hp → List V → Prop} (h : EvA ta σ G L P) (e : Same G G') : EvA ta σ G' L P := fun G1 F H a => h G1 F H (e.trans a)
theorem Ev.is (h : Ev te σ G L R x) {x' : α} (e : x = x') : Ev te σ G L R x' := e ▸ h
theorem EvT.is {b b' : Bool} (h : EvT t σ G L b) (e : b = b') : EvT t σ G L b' := e ▸ h
theorem Ev.imp (h : Ev te σ G L R x) (i : ∀ G' v, R G' v x → S G' v y) : Ev te σ G L S y := fun G1 F H a b c Q q => h G1 F H a b c Q fun v G2 H2 s A r => q v G2 H2 s A (i _ _ r)
theorem EvF.ev [Mn R] {xs : List α} (h : EvF te σ G L R xs) : Ev te σ G L (RL K R) xs := fun G1 F H a b c Q q => h G1 F H a b c Q fun D vs G2 H2 s n1 n2 A p =>
  q _ (upd G2 D (.lst vs)) H2 (s.trans (same_new n2)) (A.freezeN n1) ⟨D, vs, rfl, .inl (.inl upd_same), pairedS (same_new n2) p⟩

theorem ev_var [Mn R] {i : Nat} (h : σ[i]? = some (some v)) (r : R G v x) : Ev (tVar i) σ G L R x := fun G1 F H a _ A Q q => ⟨v, h, q v G1 H (Same.refl _) A (mn a r)⟩
theorem ev_c (r : ∀ G, R G v x) : Ev (tC v) σ G L R x := fun G1 F H _ _ A Q q => q v G1 H (Same.refl _) A (r G1)
theorem ev_i {n : Int} : Ev (tC (.int n)) σ G L RI n := ev_c fun _ => rfl
theorem ev_bl {b : Bool} : Ev (tC (.bl b)) σ G L RB b := ev_c fun _ => rfl
theorem ev_bin {r : R2} [Mn R] (ha : Ev ta σ G L R x) (hb : Ev tb σ G L S y)
    (hr : ∀ v u G1 F H, Same G G1 → Same L F → At G1 F H → R G1 v x → S G1 u y → ∀ Q : VK, (∀ w G2 H2, Same G1 G2 → At G2 F H2 → T G2 w z → Q w H2) → r v u H Q) : Ev (tOp r ta tb) σ G L T z := fun G1 F H a b A Q q =>
  ha G1 F H a b A _ fun v G2 H2 s2 A2 r2 => hb G2 F H2 (a.trans s2) b A2 _ fun u G3 H3 s3 A3 r3 =>
    hr v u G3 F H3 ((a.trans s2).trans s3) b A3 (mn s3 r2) r3 Q fun w G4 H4 s4 A4 r4 => q w G4 H4 ((s2.trans s3).trans s4) A4 r4
theorem ev_op0 {f : Int → Int → V} {i j : Int} (ha : Ev ta σ G L RI i) (hb : Ev tb σ G L RI j) (hz : ∀ G, T G (f i j) z) : Ev (tOp (rI0 f) ta tb) σ G L T z :=
  ev_bin ha hb fun v u G1 F H _ _ A r s Q q => ⟨i, j, r, s, q _ G1 H (Same.refl _) A (hz G1)⟩
theorem ev_opC {C : Int → Int → Prop} {f : Int → Int → V} {i j : Int} (ha : Ev ta σ G L RI i) (hb : Ev tb σ G L RI j) (hc : C i j) (hz : ∀ G, T G (f i j) z) : Ev (tOp (rI C f) ta tb) σ G L T z :=
  ev_bin ha hb fun v u G1 F H _ _ A r s Q q => ⟨i, j, r, s, hc, q _ G1 H (Same.refl _) A (hz G1)⟩
theorem ev_add {i j : Int} (ha : Ev ta σ G L RI i) (hb : Ev tb σ G L RI j) : Ev (tOp (rI0 fun i j => .int (i + j)) ta tb) σ G L RI (i + j) := ev_op0 ha hb fun _ => rfl
theorem ev_sub {i j : Int} (ha : Ev ta σ G L RI i) (hb : Ev tb σ G L RI j) : Ev (tOp (rI0 fun i j => .int (i - j)) ta tb) σ G L RI (i - j) := ev_op0 ha hb fun _ => rfl
theorem ev_mul {i j : Int} (ha : Ev ta σ G L RI i) (hb : Ev tb σ G L RI j) (hc : CMul i j) : Ev (tOp (rI CMul fun i j => .int (i * j)) ta tb) σ G L RI (i * j) := ev_opC ha hb hc fun _ => rfl
theorem ev_mod {i j : Int} (ha : Ev ta σ G L RI i) (hb : Ev tb σ G L RI j) (hc : 0 < j) : Ev (tOp (rI (fun _ j => j ≠ 0) fun i j => .int (i.fmod j)) ta tb) σ G L RI (i % j) :=
  ev_opC ha hb (by omega) fun _ => by show V.int (i.fmod j) = V.int (i % j); rw [Int.fmod_eq_emod_of_nonneg _ (by omega)]
theorem ev_fdiv {i j : Int} (ha : Ev ta σ G L RI i) (hb : Ev tb σ G L RI j) (hc : 0 < j) (hs : j < 1073741824) : Ev (tOp (rI CDivN fun i j => .int (i.fdiv j)) ta tb) σ G L RI (i / j) :=
  ev_opC ha hb (by refine ⟨by omega, ?_⟩; omega) fun _ => by show V.int (i.fdiv j) = V.int (i / j); rw [Int.fdiv_eq_ediv_of_nonneg _ (by omega)]
theorem ev_neg {i : Int} (ha : Ev ta σ G L RI i) : Ev (tUn (rU fun i => .int (-i)) ta) σ G L RI (-i) := fun G1 F H a b A Q q =>
  ha G1 F H a b A _ fun v G2 H2 s2 A2 r2 => ⟨i, r2, q _ G2 H2 s2 A2 rfl⟩
theorem ev_cmp {f : Int → Int → Bool} {i j : Int} (ha : Ev ta σ G L RI i) (hb : Ev tb σ G L RI j) : Ev (tOp (rI0 fun i j => .bl (f i j)) ta tb) σ G L RB (f i j) := ev_op0 ha hb fun _ => rfl
theorem ev_eqI {i j : Int} (ha : Ev ta σ G L RI i) (hb : Ev tb σ G L RI j) : Ev (tOp rEq ta tb) σ G L RB (decide (i = j)) :=
  ev_bin ha hb fun v u G1 F H _ _ A r s Q q => by cases r; cases s; exact ⟨rfl, q _ G1 H (Same.refl _) A (by show V.bl _ = V.bl _; congr 1; simp)⟩
theorem ev_neI {i j : Int} (ha : Ev ta σ G L RI i) (hb : Ev tb σ G L RI j) : Ev (tOp rNe ta tb) σ G L RB (!decide (i = j)) :=
  ev_bin ha hb fun v u G1 F H _ _ A r s Q q => by cases r; cases s; exact ⟨rfl, q _ G1 H (Same.refl _) A (by show V.bl _ = V.bl _; congr 2; simp)⟩
theorem ev_notV {b : Bool} (h : Ev ta σ G L RB b) : Ev (tNotV ta) σ G L RB (!b) := fun G1 F H a c A Q q =>
  h G1 F H a c A _ fun v G2 H2 s2 A2 r2 => ⟨b, r2, q _ G2 H2 s2 A2 rfl⟩
theorem ev_andV {a b : Bool} (h1 : Ev ta σ G L RB a) (h2 : a = true → Ev tb σ G L RB b) : Ev (tAndV ta tb) σ G L RB (a && b) := fun G1 F H s c A Q q =>
  h1 G1 F H s c A _ fun v G2 H2 s2 A2 r2 => ⟨a, r2, by
    cases a with
    | true =>
      show tb σ H2 Q
      exact h2 rfl G2 F H2 (s.trans s2) c A2 Q fun w G3 H3 s3 A3 r3 => q w G3 H3 (s2.trans s3) A3 r3
    | false =>
      show Q (.bl false) H2
      exact q _ G2 H2 s2 A2 rfl⟩
theorem et_test {b : Bool} (h : Ev ta σ G L RB b) : EvT (tTest ta) σ G L b := fun G1 F H a c A Q q =>
  h G1 F H a c A _ fun v G2 H2 s2 A2 r2 => ⟨b, r2, q G2 H2 s2 A2⟩
theorem et_B {b : Bool} (h : Ev ta σ G L RB b) : EvT (tB ta) σ G L b := fun G1 F H a c A Q q =>
  h G1 F H a c A _ fun v G2 H2 s2 A2 r2 => ⟨b, r2, q G2 H2 s2 A2⟩
theorem et_not {b : Bool} (h : EvT t σ G L b) : EvT (tNot t) σ G L (!b) := fun G1 F H a c A Q q =>
  h G1 F H a c A _ fun G2 H2 s2 A2 => q G2 H2 s2 A2
theorem et_and {a b : Bool} (h1 : EvT t σ G L a) (h2 : a = true → EvT u σ G L b) : EvT (tAnd t u) σ G L (a && b) := fun G1 F H s c A Q q =>
  h1 G1 F H s c A _ fun G2 H2 s2 A2 => by
    cases a with
    | true =>
      show u σ H2 Q
      exact h2 rfl G2 F H2 (s.trans s2) c A2 Q fun G3 H3 s3 A3 => q G3 H3 (s2.trans s3) A3
    | false =>
      show Q false H2
      exact q G2 H2 s2 A2
theorem et_or {a b : Bool} (h1 : EvT t σ G L a) (h2 : a = false → EvT u σ G L b) : EvT (tOr t u) σ G L (a || b) := fun G1 F H s c A Q q =>
  h1 G1 F H s c A _ fun G2 H2 s2 A2 => by
    cases a with
    | true =>
      show Q true H2
      exact q G2 H2 s2 A2
    | false =>
      show u σ H2 Q
      exact h2 rfl G2 F H2 (s.trans s2) c A2 Q fun G3 H3 s3 A3 => q G3 H3 (s2.trans s3) A3
theorem et_yes : EvT tYes σ G L true := fun G1 F H _ _ A Q q => q G1 H (Same.refl _) A
theorem ev_if {b : Bool} (h : EvT t σ G L b) (h1 : b = true → Ev ta σ G L R x) (h2 : b = false → Ev tb σ G L R x) : Ev (tIf t ta tb) σ G L R x := fun G1 F H s c A Q q =>
  h G1 F H s c A _ fun G2 H2 s2 A2 => by
    cases b with
    | true =>
      show ta σ H2 Q
      exact h1 rfl G2 F H2 (s.trans s2) c A2 Q fun w G3 H3 s3 A3 r3 => q w G3 H3 (s2.trans s3) A3 r3
    | false =>
      show tb σ H2 Q
      exact h2 rfl G2 F H2 (s.trans s2) c A2 Q fun w G3 H3 s3 A3 r3 => q w G3 H3 (s2.trans s3) A3 r3
theorem ea_nil : EvA tNil σ G L (fun _ vs => vs = []) := fun G1 F H _ _ A Q q => q [] G1 H (Same.refl _) A rfl
theorem ea_cons [Mn R] {tr : TA} {P : Hp → List V → Prop} (h : Ev ta σ G L R x) (hr : EvA tr σ G L P) : EvA (tCons ta tr) σ G L (fun G' vs => ∃ v r, vs = v :: r ∧ R G' v x ∧ P G' r) := fun G1 F H s c A Q q =>
  h G1 F H s c A _ fun v G2 H2 s2 A2 r2 => hr G2 F H2 (s.trans s2) c A2 _ fun vs G3 H3 s3 A3 r3 => q _ G3 H3 (s2.trans s3) A3 ⟨v, vs, rfl, mn s3 r2, r3⟩
theorem EvA.imp {ta : TA} {P P' : Hp → List V → Prop} (h : EvA ta σ G L P) (i : ∀ G' vs, P G' vs → P' G' vs) : EvA ta σ G L P' := fun G1 F H s c A Q q =>
  h G1 F H s c A Q fun vs G2 H2 s2 A2 r2 => q vs G2 H2 s2 A2 (i _ _ r2)
/-- a tuple of values alike -/
def AllR {α : Type} (R : Rel α) (xs : List α) : Hp → List V → Prop := fun G vs => Paired (R G) vs xs
theorem ea_nilR : EvA tNil σ G L (AllR R []) := fun G1 F H _ _ A Q q => q [] G1 H (Same.refl _) A .nil
theorem ea_consR [Mn R] {tr : TA} {xs : List α} (h : Ev ta σ G L R x) (hr : EvA tr σ G L (AllR R xs)) : EvA (tCons ta tr) σ G L (AllR R (x :: xs)) :=
  (ea_cons h hr).imp fun _ _ ⟨_, _, e, r, p⟩ => by subst e; exact .cons r p
theorem ev_tup {xs : List α} {tr : TA} [Mn R] (h : EvA tr σ G L (AllR R xs)) (hl : xs.length ≤ 1000) : Ev (tTup tr) σ G L (RT K R) xs := fun G1 F H s c A Q q =>
  h G1 F H s c A _ fun vs G2 H2 s2 A2 r2 => ⟨Nat.le_trans (by rw [Paired.len r2]; exact hl) (by decide), fun p hp =>
    q _ _ _ (s2.trans (same_new (A2.nG hp))) (A2.new hp) ⟨p, vs, rfl, .inl (.inl upd_same), pairedS (same_new (A2.nG hp)) r2⟩⟩
theorem ev_tup2 [Mn R] [Mn S] (h1 : Ev ta σ G L R x) (h2 : Ev tb σ G L S y) : Ev (tTup (tCons ta (tCons tb tNil))) σ G L (RP K R S) (x, y) := fun G1 F H s c A Q q =>
  ea_cons h1 (ea_cons h2 ea_nil) G1 F H s c A _ fun vs G2 H2 s2 A2 ⟨v1, r1, e1, q1, v2, r2, e2, q2, e3⟩ => by
    subst e1 e2 e3
    exact ⟨(by show 2 ≤ sizeLine; decide), fun p hp => q _ _ _ (s2.trans (same_new (A2.nG hp))) (A2.new hp) ⟨p, v1, v2, rfl, .inl (.inl upd_same), mn (same_new (A2.nG hp)) q1, mn (same_new (A2.nG hp)) q2⟩⟩
theorem ev_tup3 [Mn R] [Mn S] [Mn T] (h1 : Ev ta σ G L R x) (h2 : Ev tb σ G L S y) (h3 : Ev tx σ G L T z) : Ev (tTup (tCons ta (tCons tb (tCons tx tNil)))) σ G L (R3 K R S T) (x, y, z) := fun G1 F H s c A Q q =>
  ea_cons h1 (ea_cons h2 (ea_cons h3 ea_nil)) G1 F H s c A _ fun vs G2 H2 s2 A2 ⟨v1, r1, e1, q1, v2, r2, e2, q2, v3, r3, e3, q3, e4⟩ => by
    subst e1 e2 e3 e4
    exact ⟨(by show 3 ≤ sizeLine; decide), fun p hp => q _ _ _ (s2.trans (same_new (A2.nG hp))) (A2.new hp)
      ⟨p, v1, v2, v3, rfl, .inl (.inl upd_same), mn (same_new (A2.nG hp)) q1, mn (same_new (A2.nG hp)) q2, mn (same_new (A2.nG hp)) q3⟩⟩
theorem ef_lst [Mn R] {xs : List α} {tr : TA} (h : EvA tr σ G L (AllR R xs)) (hl : xs.length ≤ 1000) : EvF (tLst tr) σ G L R xs := fun G1 F H s c A Q q =>
  h G1 F H s c A _ fun vs G2 H2 s2 A2 r2 => ⟨Nat.le_trans (by rw [Paired.len r2]; exact hl) (by decide), fun p hp =>
    q p vs G2 _ s2 (A2.nF hp) (A2.nG hp) (A2.newF hp) r2⟩
theorem ef_nil [Mn R] : EvF (tLst tNil) σ G L R ([] : List α) := ef_lst ea_nilR (Nat.zero_le _)
/-! items, lengths -/
theorem atI_n {xs : List V} {i : Int} {n : Nat} {v : V} (e : i = (n : Int)) (h : xs[n]? = some v) : atI xs i = some v := by rw [e]; exact atI_nat h
theorem ev_ixT [Mn R] {xs : List α} {i : Int} {n : Nat} (ha : Ev ta σ G L (RT K R) xs) (hb : Ev tb σ G L RI i) (e : i = (n : Int)) (h : xs[n]? = some x) : Ev (tOp (rIx K) ta tb) σ G L R x :=
  ev_bin ha hb fun v u G1 F H _ _ A r s Q q => by
    obtain ⟨a, vs, rfl, h2, p⟩ := r
    cases s
    obtain ⟨w, h3, h4⟩ := pget p h
    exact .inr (.inl ⟨a, vs, i, w, rfl, rfl, sqtS A.g h2, atI_n e h3, q w G1 H (Same.refl _) A h4⟩)
theorem ev_ixL [Mn R] {xs : List α} {i : Int} {n : Nat} (ha : Ev ta σ G L (RL K R) xs) (hb : Ev tb σ G L RI i) (e : i = (n : Int)) (h : xs[n]? = some x) : Ev (tOp (rIx K) ta tb) σ G L R x :=
  ev_bin ha hb fun v u G1 F H _ _ A r s Q q => by
    obtain ⟨a, vs, rfl, h2, p⟩ := r
    cases s
    obtain ⟨w, h3, h4⟩ := pget p h
    exact .inl ⟨a, vs, i, w, rfl, rfl, sqlS A.g h2, atI_n e h3, q w G1 H (Same.refl _) A h4⟩
theorem ev_ixP0 [Mn R] [Mn S] {p : α × β} (ha : Ev ta σ G L (RP K R S) p) : Ev (tOp (rIx K) ta (tC (.int 0))) σ G L R p.1 :=
  ev_bin ha ev_i fun v u G1 F H _ _ A r s Q q => by
    obtain ⟨a, v1, v2, rfl, h2, h3, h4⟩ := r
    cases s
    exact .inr (.inl ⟨a, _, 0, v1, rfl, rfl, sqtS A.g h2, rfl, q v1 G1 H (Same.refl _) A h3⟩)
theorem ev_ixP1 [Mn R] [Mn S] {p : α × β} (ha : Ev ta σ G L (RP K R S) p) : Ev (tOp (rIx K) ta (tC (.int 1))) σ G L S p.2 :=
  ev_bin ha ev_i fun v u G1 F H _ _ A r s Q q => by
    obtain ⟨a, v1, v2, rfl, h2, h3, h4⟩ := r
    cases s
    exact .inr (.inl ⟨a, _, 1, v2, rfl, rfl, sqtS A.g h2, rfl, q v2 G1 H (Same.refl _) A h4⟩)
/-- a list that is still changed, read -/
theorem ev_ixM [Mn R] {xs : List α} {i : Int} {n k : Nat} {l : Addr} {vs : List V} (hk : σ[k]? = some (some (.ref l))) (hl : L l = some (.lst vs)) (p : Paired (R G) vs xs) (hb : Ev tb σ G L RI i) (e : i = (n : Int)) (h : xs[n]? = some x) : Ev (tOp (rIx K) (tVar k) tb) σ G L R x := fun G1 F H a b A Q q => by
  refine ⟨_, hk, hb G1 F H a b A _ fun u G2 H2 s2 A2 r2 => ?_⟩
  cases r2
  obtain ⟨w, h3, h4⟩ := pget p h
  exact .inl ⟨l, vs, i, w, rfl, rfl, .inl (.inl (A2.f _ _ (b _ _ hl))), atI_n e h3, q w G2 H2 s2 A2 (mn (a.trans s2) h4)⟩
def rLen (K : Fg) : List V → Hp → VK → Prop := fun xs H Q => ∃ p ys, xs = [.ref p] ∧ (SqL K H p ys ∨ SqT K H p ys) ∧ Q (.int ys.length) H
theorem ev_lenT {xs : List α} (ha : Ev ta σ G L (RT K R) xs) : Ev (tCB (rLen K) (tCons ta tNil)) σ G L RI (xs.length : Int) := fun G1 F H s c A Q q =>
  ha G1 F H s c A _ fun v G2 H2 s2 A2 ⟨a, vs, e, h2, p⟩ => ⟨a, vs, by rw [e], .inr (sqtS A2.g h2), q _ G2 H2 s2 A2 (by show V.int _ = V.int _; rw [Paired.len p])⟩
theorem ev_lenL {xs : List α} (ha : Ev ta σ G L (RL K R) xs) : Ev (tCB (rLen K) (tCons ta tNil)) σ G L RI (xs.length : Int) := fun G1 F H s c A Q q =>
  ha G1 F H s c A _ fun v G2 H2 s2 A2 ⟨a, vs, e, h2, p⟩ => ⟨a, vs, by rw [e], .inl (sqlS A2.g h2), q _ G2 H2 s2 A2 (by show V.int _ = V.int _; rw [Paired.len p])⟩
theorem ev_lenM {k : Nat} {l : Addr} {vs : List V} (hk : σ[k]? = some (some (.ref l))) (hl : L l = some (.lst vs)) : Ev (tCB (rLen K) (tCons (tVar k) tNil)) σ G L RI (vs.length : Int) := fun G1 F H s c A Q q =>
  ⟨_, hk, l, vs, rfl, .inl (.inl (.inl (A.f _ _ (c _ _ hl)))), q _ G1 H (Same.refl _) A rfl⟩
def rTupOf (K : Fg) : List V → Hp → VK → Prop := fun xs H Q => ∃ p ys, xs = [.ref p] ∧ ((SqL K H p ys ∧ ∀ l, H l = none → Q (.ref l) (upd H l (.tup ys))) ∨ (SqT K H p ys ∧ Q (.ref p) H))
theorem ev_tupL [Mn R] {xs : List α} (ha : Ev ta σ G L (RL K R) xs) : Ev (tCB (rTupOf K) (tCons ta tNil)) σ G L (RT K R) xs := fun G1 F H s c A Q q =>
  ha G1 F H s c A _ fun v G2 H2 s2 A2 ⟨a, vs, e, h2, p⟩ => ⟨a, vs, by rw [e], .inl ⟨sqlS A2.g h2, fun l hl =>
    q _ _ _ (s2.trans (same_new (A2.nG hl))) (A2.new hl) ⟨l, vs, rfl, .inl (.inl upd_same), pairedS (same_new (A2.nG hl)) p⟩⟩⟩
theorem ev_tupT [Mn R] {xs : List α} (ha : Ev ta σ G L (RT K R) xs) : Ev (tCB (rTupOf K) (tCons ta tNil)) σ G L (RT K R) xs := fun G1 F H s c A Q q =>
  ha G1 F H s c A _ fun v G2 H2 s2 A2 ⟨a, vs, e, h2, p⟩ => ⟨a, vs, by rw [e], .inr ⟨sqtS A2.g h2, q _ G2 H2 s2 A2 ⟨a, vs, rfl, h2, p⟩⟩⟩
theorem ev_tupM [Mn R] {xs : List α} {k : Nat} {l : Addr} {vs : List V} (hk : σ[k]? = some (some (.ref l))) (hl : L l = some (.lst vs)) (p : Paired (R G) vs xs) : Ev (tCB (rTupOf K) (tCons (tVar k) tNil)) σ G L (RT K R) xs := fun G1 F H s c A Q q =>
  ⟨_, hk, l, vs, rfl, .inl ⟨.inl (.inl (A.f _ _ (c _ _ hl))), fun l' hl' => q _ _ _ (same_new (A.nG hl')) (A.new hl') ⟨l', vs, rfl, .inl (.inl upd_same), pairedS (s.trans (same_new (A.nG hl'))) p⟩⟩⟩
def rLstOf (K : Fg) : List V → Hp → VK → Prop := fun xs H Q => ∃ p ys, xs = [.ref p] ∧ (SqL K H p ys ∨ SqT K H p ys) ∧ ∀ l, H l = none → Q (.ref l) (upd H l (.lst ys))
theorem ef_lstT [Mn R] {xs : List α} (ha : Ev ta σ G L (RT K R) xs) : EvF (tCB (rLstOf K) (tCons ta tNil)) σ G L R xs := fun G1 F H s c A Q q =>
  ha G1 F H s c A _ fun v G2 H2 s2 A2 ⟨a, vs, e, h2, p⟩ => ⟨a, vs, by rw [e], .inr (sqtS A2.g h2), fun l hl => q l vs G2 _ s2 (A2.nF hl) (A2.nG hl) (A2.newF hl) p⟩
theorem ev_int1 {i : Int} (ha : Ev ta σ G L RI i) : Ev (tCB (fun xs H Q => (∃ i, xs = [V.int i] ∧ Q (.int i) H) ∨ ∃ k, xs = [V.bl k] ∧ Q (.int (if k then 1 else 0)) H) (tCons ta tNil)) σ G L RI i := fun G1 F H s c A Q q =>
  ha G1 F H s c A _ fun v G2 H2 s2 A2 e => .inl ⟨i, by rw [show v = V.int i from e], q _ G2 H2 s2 A2 rfl⟩
theorem ev_intB {b : Bool} (ha : Ev ta σ G L RB b) : Ev (tCB (fun xs H Q => (∃ i, xs = [V.int i] ∧ Q (.int i) H) ∨ ∃ k, xs = [V.bl k] ∧ Q (.int (if k then 1 else 0)) H) (tCons ta tNil)) σ G L RI (if b then 1 else 0) := fun G1 F H s c A Q q =>
  ha G1 F H s c A _ fun v G2 H2 s2 A2 e => .inr ⟨b, by rw [show v = V.bl b from e], q _ G2 H2 s2 A2 rfl⟩
theorem ev_sum {ns : List Int} (ha : Ev ta σ G L (RL K RI) ns) : Ev (tCB (rSum K) (tCons ta tNil)) σ G L RI ns.sum := fun G1 F H s c A Q q =>
  ha G1 F H s c A _ fun v G2 H2 s2 A2 ⟨a, vs, e, h2, p⟩ => ⟨a, ns, by rw [e], by rw [← pints p]; exact sqlS A2.g h2, q _ G2 H2 s2 A2 rfl⟩
theorem ev_all {bs : List Bool} (ha : Ev ta σ G L (RL K RB) bs) : Ev (tCB (rAll K) (tCons ta tNil)) σ G L RB (bs.all id) := fun G1 F H s c A Q q =>
  ha G1 F H s c A _ fun v G2 H2 s2 A2 ⟨a, vs, e, h2, p⟩ => ⟨a, bs, by rw [e], by rw [← pbools p]; exact sqlS A2.g h2, q _ G2 H2 s2 A2 rfl⟩
theorem ev_any {bs : List Bool} (ha : Ev ta σ G L (RL K RB) bs) : Ev (tCB (rAny K) (tCons ta tNil)) σ G L RB (bs.any id) := fun G1 F H s c A Q q =>
  ha G1 F H s c A _ fun v G2 H2 s2 A2 ⟨a, vs, e, h2, p⟩ => ⟨a, bs, by rw [e], by rw [← pbools p]; exact sqlS A2.g h2, q _ G2 H2 s2 A2 rfl⟩
end

/-! ### promises -/
/-- from data i: what the arguments are, what is handed back; nothing else changes -/
def SpP {ι : Type} (pre : ι → Hp → List V → Prop) (post : ι → Hp → V → Prop) : Sp := fun vs H Q _ =>
  ∃ (i : ι) (G F : Hp), At G F H ∧ pre i G vs ∧ ∀ v G' H', Same G G' → At G' F H' → post i G' v → Q v H'
/-- .. a new list, that may still be changed -/
def SpF {ι α : Type} (pre : ι → Hp → List V → Prop) (R : Rel α) (f : ι → List α) : Sp := fun vs H Q _ =>
  ∃ (i : ι) (G F : Hp), At G F H ∧ pre i G vs ∧ ∀ D ws G' H', Same G G' → F D = none → G' D = none → At G' (upd F D (.lst ws)) H' → Paired (R G') ws (f i) → Q (.ref D) H'
section
variable {α ι : Type} {K : Fg} {σ : L2.St} {G L : Hp} {ta : TA} {R : Rel α} {x : α}
theorem ev_call {pre : ι → Hp → List V → Prop} {post : ι → Hp → V → Prop} {P : Hp → List V → Prop} {E : XK} (i : ι) (ha : EvA ta σ G L P) (h1 : ∀ G' vs, Same G G' → P G' vs → pre i G' vs) (h2 : ∀ G' v, Same G G' → post i G' v → R G' v x) : Ev (tCall (SpP pre post) [] E ta) σ G L R x := fun G1 F H s c A Q q =>
  ha G1 F H s c A _ fun vs G2 H2 s2 A2 p => ⟨i, G2, F, A2, by rw [List.append_nil]; exact h1 _ _ (s.trans s2) p, fun v G' H' s3 A3 hp => q v G' H' (s2.trans s3) A3 (h2 _ _ ((s.trans s2).trans s3) hp)⟩
theorem ef_call {pre : ι → Hp → List V → Prop} {f : ι → List α} {P : Hp → List V → Prop} {E : XK} (i : ι) (ha : EvA ta σ G L P) (h1 : ∀ G' vs, Same G G' → P G' vs → pre i G' vs) : EvF (tCall (SpF pre R f) [] E ta) σ G L R (f i) := fun G1 F H s c A Q q =>
  ha G1 F H s c A _ fun vs G2 H2 s2 A2 p => ⟨i, G2, F, A2, by rw [List.append_nil]; exact h1 _ _ (s.trans s2) p, fun D ws G' H' s3 n1 n2 A3 hp => q D ws G' H' (s2.trans s3) n1 n2 A3 hp⟩
end

/-! ### what is walked -/
structure ItOk (J : It) (G L : Hp) (n : Nat) (Y : Nat → Hp → V → Prop) : Prop where
  go : ∀ i H, i < n → Same G H → Same L H → J.go i H
  stop : ∀ H, Same G H → Same L H → J.stop n H
  yld : ∀ i H x H' G3 F, i < n → Same G G3 → Same L F → At G3 F H → J.yld i H x H' → ∃ G4, Same G3 G4 ∧ At G4 F H' ∧ Y i G4 x
def EvI (wi : TI) (σ : L2.St) (G L : Hp) (n : Nat) (Y : Nat → Hp → V → Prop) : Prop :=
  ∀ G1 F H, Same G G1 → Same L F → At G1 F H → ∀ R : It → Hp → Prop, (∀ J G2 H2, Same G1 G2 → At G2 F H2 → ItOk J G2 L n Y → R J H2) → wi σ H R
section
variable {α β γ : Type} {K : Fg} {σ : L2.St} {G G' L : Hp} {ta tb te : TE} {tt : TT} {R : Rel α} {S : Rel β} {T : Rel γ}
theorem ei_range {m : Int} {tr : TA} {P : Hp → List V → Prop} (h : EvA tr σ G L P) (hp : ∀ G vs, P G vs → vs = [V.int m]) (h0 : -(2 ^ 62) ≤ m ∧ m < 2 ^ 62) : EvI (iRng1 tr) σ G L m.toNat (fun i _ v => v = .int i) := fun G1 F H s c A R q =>
  h G1 F H s c A _ fun vs G2 H2 s2 A2 p => ⟨m, hp _ _ p, h0.1, h0.2, q _ G2 H2 s2 A2 ⟨fun i H hi _ _ => hi, fun H _ _ => Nat.le_refl _, fun i H x H' G3 F' hi _ _ A y => by
    obtain ⟨e1, e2⟩ := (show H' = H ∧ x = V.int (0 + (i : Int)) from y)
    subst e1 e2
    exact ⟨G3, Same.refl _, A, by rw [Int.zero_add]⟩⟩⟩
theorem ei_rangeN {m : Nat} (h : Ev ta σ G L RI (m : Int)) (h0 : m < 2 ^ 62) : EvI (iRng1 (tCons ta tNil)) σ G L m (fun i _ v => v = .int i) := by
  have q := ei_range (m := (m : Int)) (ea_cons h ea_nil) (fun G vs ⟨v, r, e, e1, e2⟩ => by subst e e2; cases e1; rfl) ⟨by omega, by omega⟩
  rwa [Int.toNat_natCast] at q
theorem ei_list [Mn R] {xs : List α} (h : Ev ta σ G L (RL K R) xs) : EvI (iList K ta) σ G L xs.length (fun i G' v => ∃ x, xs[i]? = some x ∧ R G' v x) := fun G1 F H s c A Q q =>
  h G1 F H s c A _ fun v G2 H2 s2 A2 ⟨a, vs, e, h2, p⟩ => ⟨a, e, ⟨vs, sqlS A2.g h2⟩, q _ G2 H2 s2 A2 ⟨fun i H hi sG _ => walk_list.goes i H (by rw [Paired.len p]; exact hi) (sqlS sG h2), fun H sG _ => by
      have w := (walk_list (K := K) (a := a) (xs := vs)).stops H (sqlS sG h2)
      rwa [Paired.len p] at w, fun i H x H' G3 F' hi s3 _ A3 y => by
    obtain ⟨e1, e2⟩ := (walk_list (K := K) (a := a) (xs := vs)).yields i H x H' (by rw [Paired.len p]; exact hi) (sqlS (s3.trans A3.g) h2) y
    subst e1
    obtain ⟨z, h3, h4⟩ := pget' p e2
    exact ⟨G3, Same.refl _, A3, z, h3, mn s3 h4⟩⟩⟩
theorem ei_tup [Mn R] {xs : List α} (h : Ev ta σ G L (RT K R) xs) : EvI (iTup K ta) σ G L xs.length (fun i G' v => ∃ x, xs[i]? = some x ∧ R G' v x) := fun G1 F H s c A Q q =>
  h G1 F H s c A _ fun v G2 H2 s2 A2 ⟨a, vs, e, h2, p⟩ => ⟨a, e, ⟨vs, sqtS A2.g h2⟩, q _ G2 H2 s2 A2 ⟨fun i H hi sG _ => walk_tup.goes i H (by rw [Paired.len p]; exact hi) (sqtS sG h2), fun H sG _ => by
      have w := (walk_tup (K := K) (a := a) (xs := vs)).stops H (sqtS sG h2)
      rwa [Paired.len p] at w, fun i H x H' G3 F' hi s3 _ A3 y => by
    obtain ⟨e1, e2⟩ := (walk_tup (K := K) (a := a) (xs := vs)).yields i H x H' (by rw [Paired.len p]; exact hi) (sqtS (s3.trans A3.g) h2) y
    subst e1
    obtain ⟨z, h3, h4⟩ := pget' p e2
    exact ⟨G3, Same.refl _, A3, z, h3, mn s3 h4⟩⟩⟩
/-- a list that is still changed elsewhere, but not while it is walked -/
theorem ei_listM [Mn R] {xs : List α} {k : Nat} {l : Addr} {vs : List V} (hk : σ[k]? = some (some (.ref l))) (hl : L l = some (.lst vs)) (p : Paired (R G) vs xs) : EvI (iList K (tVar k)) σ G L xs.length (fun i G' v => ∃ x, xs[i]? = some x ∧ R G' v x) := fun G1 F H s c A Q q =>
  ⟨_, hk, l, rfl, ⟨vs, .inl (.inl (A.f _ _ (c _ _ hl)))⟩, q _ G1 H (Same.refl _) A ⟨fun i H hi _ sL => walk_list.goes i H (by rw [Paired.len p]; exact hi) (.inl (.inl (sL _ _ hl))), fun H _ sL => by
      have w := (walk_list (K := K) (a := l) (xs := vs)).stops H (.inl (.inl (sL _ _ hl)))
      rwa [Paired.len p] at w, fun i H x H' G3 F' hi s3 sL A3 y => by
    obtain ⟨e1, e2⟩ := (walk_list (K := K) (a := l) (xs := vs)).yields i H x H' (by rw [Paired.len p]; exact hi) (.inl (.inl (A3.f _ _ (sL _ _ hl)))) y
    subst e1
    obtain ⟨z, h3, h4⟩ := pget' p e2
    exact ⟨G3, Same.refl _, A3, z, h3, mn (s.trans s3) h4⟩⟩⟩
/-- the pairs of two walked things -/
def YP (K : Fg) (Y1 Y2 : Nat → Hp → V → Prop) : Nat → Hp → V → Prop := fun i G v => ∃ a v1 v2, v = .ref a ∧ SqT K G a [v1, v2] ∧ Y1 i G v1 ∧ Y2 i G v2
theorem ypair {J : It} {xs ys : Nat → Option V} {i : Nat} {H H' : Hp} {x : V} {G3 F : Hp} (A3 : At G3 F H) (y : YPair xs ys i H x H') : ∃ G4 T v1 v2, Same G3 G4 ∧ At G4 F H' ∧ x = .ref T ∧ SqT K G4 T [v1, v2] ∧ xs i = some v1 ∧ ys i = some v2 := by
  obtain ⟨T, v1, v2, e1, e2, e3, e4, e5⟩ := y
  subst e1 e3
  exact ⟨_, T, v1, v2, same_new (A3.nG e2), A3.new e2, rfl, .inl (.inl upd_same), e4, e5⟩
theorem ei_enumL [Mn R] {xs : List α} (h : Ev ta σ G L (RL K R) xs) : EvI (iEnum K (tCons ta tNil)) σ G L xs.length (fun i G' v => ∃ x, xs[i]? = some x ∧ RP K RI R G' v ((i : Int), x)) := fun G1 F H s c A Q q =>
  h G1 F H s c A _ fun v G2 H2 s2 A2 ⟨a, vs, e, h2, p⟩ => ⟨a, vs, by rw [e], sqlS A2.g h2, q _ G2 H2 s2 A2 ⟨fun i H hi sG _ => walk_enum.goes i H (by rw [Paired.len p]; exact hi) (sqlS sG h2), fun H sG _ => by
      have w := (walk_enum (K := K) (a := a) (xs := vs)).stops H (sqlS sG h2)
      rwa [Paired.len p] at w, fun i H x H' G3 F' hi s3 _ A3 y => by
    obtain ⟨G4, T, v1, v2, q1, q2, q3, q4, q5, q6⟩ := ypair (K := K) (J := Ite K a) A3 ((walk_enum (K := K) (a := a) (xs := vs)).yields i H x H' (by rw [Paired.len p]; exact hi) (sqlS (s3.trans A3.g) h2) y)
    obtain ⟨z, h3, h4⟩ := pget' p q6
    exact ⟨G4, q1, q2, z, h3, T, v1, v2, q3, q4, (Option.some.inj q5).symm, mn (s3.trans q1) h4⟩⟩⟩
theorem ei_zipL [Mn R] [Mn S] {xs : List α} {ys : List β} {n : Nat} (h : Ev ta σ G L (RL K R) xs) (h' : Ev tb σ G L (RL K S) ys) (hn : n = min xs.length ys.length) :
    EvI (RZ.iZipA K (tCons ta (tCons tb tNil))) σ G L n (fun i G' v => ∃ x y, xs[i]? = some x ∧ ys[i]? = some y ∧ RP K R S G' v (x, y)) := fun G1 F H s c A Q q =>
  h G1 F H s c A _ fun v G2 H2 s2 A2 r2 => h' G2 F H2 (s.trans s2) c A2 _ fun v' G3 H3 s3 A3 r3 => by
    obtain ⟨a, vs, e, h2, p⟩ := (mn s3 r2 : RL K R G3 v xs)
    obtain ⟨b, ws, e', h2', p'⟩ := r3
    subst e e'
    have hm : n = min vs.length ws.length := by rw [Paired.len p, Paired.len p']; exact hn
    refine ⟨a, b, vs, ws, rfl, .inl ⟨sqlS A3.g h2, sqlS A3.g h2', q _ G3 H3 (s2.trans s3) A3 ⟨fun i H hi sG _ => (walk_zip hm).goes i H hi ⟨sqlS sG h2, sqlS sG h2'⟩, fun H sG _ => (walk_zip hm).stops H ⟨sqlS sG h2, sqlS sG h2'⟩, fun i H x H' G4 F' hi s4 _ A4 y => ?_⟩⟩⟩
    obtain ⟨G5, T, v1, v2, q1, q2, q3, q4, q5, q6⟩ := ypair (K := K) (J := Itz K a b) A4 ((walk_zip hm).yields i H x H' hi ⟨sqlS (s4.trans A4.g) h2, sqlS (s4.trans A4.g) h2'⟩ y)
    obtain ⟨z, h3, h4⟩ := pget' p q5
    obtain ⟨z', h3', h4'⟩ := pget' p' q6
    exact ⟨G5, q1, q2, z, z', h3, h3', T, v1, v2, q3, q4, mn (s4.trans q1) h4, mn (s4.trans q1) h4'⟩
theorem ei_zipT [Mn R] [Mn S] {xs : List α} {ys : List β} {n : Nat} (h : Ev ta σ G L (RT K R) xs) (h' : Ev tb σ G L (RT K S) ys) (hn : n = min xs.length ys.length) :
    EvI (RZ.iZipA K (tCons ta (tCons tb tNil))) σ G L n (fun i G' v => ∃ x y, xs[i]? = some x ∧ ys[i]? = some y ∧ RP K R S G' v (x, y)) := fun G1 F H s c A Q q =>
  h G1 F H s c A _ fun v G2 H2 s2 A2 r2 => h' G2 F H2 (s.trans s2) c A2 _ fun v' G3 H3 s3 A3 r3 => by
    obtain ⟨a, vs, e, h2, p⟩ := (mn s3 r2 : RT K R G3 v xs)
    obtain ⟨b, ws, e', h2', p'⟩ := r3
    subst e e'
    have hm : n = min vs.length ws.length := by rw [Paired.len p, Paired.len p']; exact hn
    refine ⟨a, b, vs, ws, rfl, .inr ⟨sqtS A3.g h2, sqtS A3.g h2', q _ G3 H3 (s2.trans s3) A3 ⟨fun i H hi sG _ => ?_, fun H sG _ => ?_, fun i H x H' G4 F' hi s4 _ A4 y => ?_⟩⟩⟩
    · exact ⟨vs, ws, vs[i]'(by omega), ws[i]'(by omega), sqtS sG h2, sqtS sG h2', by simp, by simp⟩
    · exact ⟨vs, ws, sqtS sG h2, sqtS sG h2', by omega⟩
    · obtain ⟨T, v1, v2, e1, e2, e3, e4, e5⟩ := y
      obtain ⟨G5, T, v1, v2, q1, q2, q3, q4, q5, q6⟩ := ypair (K := K) (J := RZ.ItzT K a b) (i := i) (xs := fun i => vs[i]?) (ys := fun i => ws[i]?) A4 ⟨T, v1, v2, e1, e2, e3, e4 _ (sqtS (s4.trans A4.g) h2), e5 _ (sqtS (s4.trans A4.g) h2')⟩
      obtain ⟨z, h3, h4⟩ := pget' p q5
      obtain ⟨z', h3', h4'⟩ := pget' p' q6
      exact ⟨G5, q1, q2, z, z', h3, h3', T, v1, v2, q3, q4, mn (s4.trans q1) h4, mn (s4.trans q1) h4'⟩
end

/-! ### comprehensions -/
theorem wipe1 (σ : L2.St) (j : Nat) (x : Option V) : wipe ((wipe σ [j]).set j x) [j] = wipe σ [j] := by
  show ((σ.set j none).set j x).set j none = σ.set j none
  rw [List.set_set, List.set_set]
theorem wipe2 (σ : L2.St) (i j : Nat) (x y : Option V) : wipe (((wipe σ [i, j]).set i x).set j y) [i, j] = wipe σ [i, j] := by
  show (((((σ.set j none).set i none).set i x).set j y).set j none).set i none = (σ.set j none).set i none
  rw [List.set_set, List.set_set]
  by_cases h : i = j
  · subst h
    rw [List.set_set, List.set_set, List.set_set]
  · rw [List.set_comm x none h, List.set_set, List.set_set]
section
variable {α β γ : Type} {K : Fg} {σ : L2.St} {G G' L : Hp} {te : TE} {tt : TT} {wi : TI} {g : TG} {R : Rel α}
/-- one turn: the target takes v, the block's slots become τ -/
def Tgt (g : TG) (σ : L2.St) (vs : List Nat) (G L : Hp) (v : V) (P : Hp → L2.St → Prop) : Prop :=
  ∀ G1 F H, Same G G1 → Same L F → At G1 F H → ∀ Q : L2.St → Hp → Prop, (∀ τ G2, Same G1 G2 → At G2 F H → wipe τ vs = wipe σ vs → P G2 τ → Q τ H) → g v (wipe σ vs) H Q
theorem ef_lcG {vs : List Nat} {n : Nat} {Y : Nat → Hp → V → Prop} (f : Nat → Option α) [Mn R] (hi : EvI wi σ G L n Y) (hn : n ≤ 1000000) (P : Nat → Hp → L2.St → Prop)
    (hg : ∀ i v G', i < n → Same G G' → Y i G' v → Tgt g σ vs G' L v (P i))
    (ht : ∀ i τ G', i < n → Same G G' → P i G' τ → EvT tt τ G' L (f i).isSome)
    (he : ∀ i τ G' y, i < n → Same G G' → P i G' τ → f i = some y → Ev te τ G' L R y) (hP : ∀ i τ G' G'', Same G' G'' → P i G' τ → P i G'' τ) : EvF (tLc wi g tt te vs) σ G L R ((List.range n).filterMap f) := by
  intro G1 F H s c A Q q
  refine hi G1 F H s c A _ fun J G2 H2 s2 A2 ok => ?_
  intro D hD
  let Pv : Nat → Hp → Prop := fun i H' => ∃ G' acc, Same G2 G' ∧ G' D = none ∧ At G' (upd F D (.lst acc)) H' ∧ Paired (R G') acc ((List.range i).filterMap f)
  have nF := A2.nF hD
  have cL : ∀ {acc}, Same L (upd F D (.lst acc)) := fun {acc} => c.trans (same_new nF)
  refine ⟨fun i m H' => m = n - i ∧ i ≤ n ∧ Pv i H', ⟨n, by simp, Nat.zero_le _, G2, [], Same.refl _, A2.nG hD, A2.newF hD, .nil⟩, ?_⟩
  rintro i m H' ⟨rfl, hi', G', acc, s3, nG, A3, p⟩
  by_cases hlt : i < n
  · refine .inr ⟨ok.go i H' hlt (s3.trans A3.g) (fun a o e => A3.f a o (cL a o e)), Pv (i + 1), fun H'' p' => ⟨n - (i + 1), by omega, rfl, hlt, p'⟩, fun x H3 y => ?_⟩
    obtain ⟨G4, s4, A4, y4⟩ := ok.yld i H' x H3 G' _ hlt s3 cL A3 y
    have hD4 : G4 D = none := A4.d D _ upd_same
    refine hg i x G4 hlt (((s.trans s2).trans s3).trans s4) y4 G4 _ H3 (Same.refl _) cL A4 _ fun τ G5 s5 A5 hw p5 => ⟨hw, ?_⟩
    have sG5 : Same G G5 := (((s.trans s2).trans s3).trans s4).trans s5
    refine ht i τ G5 hlt sG5 p5 G5 _ H3 (Same.refl _) cL A5 _ fun G6 H6 s6 A6 => ?_
    cases hf : f i with
    | none =>
      simp only [Option.isSome_none, Bool.false_eq_true, if_false]
      refine ⟨G6, acc, (s3.trans s4).trans (s5.trans s6), A6.d D _ upd_same, A6, ?_⟩
      rw [List.range_succ, List.filterMap_append]
      simp only [List.filterMap_cons, hf, List.filterMap_nil, List.append_nil]
      exact pairedS (s4.trans (s5.trans s6)) p
    | some y' =>
      simp only [Option.isSome_some, if_true]
      refine he i τ G6 y' hlt (sG5.trans s6) (hP _ _ _ _ s6 p5) hf G6 _ H6 (Same.refl _) cL A6 _ fun v G7 H7 s7 A7 r7 => ?_
      refine ⟨acc, A7.f D _ upd_same, ?_, G7, acc ++ [v], (s3.trans s4).trans ((s5.trans s6).trans s7), A7.d D _ upd_same, ?_, ?_⟩
      · rw [Paired.len p]
        refine Nat.lt_of_le_of_lt (List.length_filterMap_le _ _) ?_
        rw [List.length_range]
        exact Nat.lt_of_le_of_lt (Nat.le_trans (Nat.le_of_lt hlt) hn) (by decide)
      · have A8 := A7.set (o := .lst (acc ++ [v])) upd_same
        rwa [upd_upd] at A8
      · rw [List.range_succ, List.filterMap_append]
        simp only [List.filterMap_cons, hf, List.filterMap_nil]
        exact papp (pairedS (s4.trans ((s5.trans s6).trans s7)) p) (pone r7)
  · have e : i = n := by omega
    subst e
    exact .inl ⟨ok.stop H' (s3.trans A3.g) (fun a o e => A3.f a o (cL a o e)), q D acc G' H' (s2.trans s3) nF nG A3 p⟩
theorem tg_name {j : Nat} {v : V} {P : Hp → V → Prop} (h : P G v) (hm : ∀ G', Same G G' → P G' v) : Tgt (gName j) σ [j] G L v (fun G' τ => ∃ w, τ = (wipe σ [j]).set j (some w) ∧ P G' w) := fun G1 F H s c A Q q =>
  q _ G1 (Same.refl _) A (wipe1 σ j _) ⟨v, rfl, hm _ s⟩
/-- for a name -/
theorem ef_lc1 {j n : Nat} {Y : Nat → Hp → V → Prop} (f : Nat → Option α) [Mn R] (hi : EvI wi σ G L n Y) (hn : n ≤ 1000000) (hY : ∀ i v G' G'', Same G' G'' → Y i G' v → Y i G'' v)
    (ht : ∀ i v G', i < n → Same G G' → Y i G' v → EvT tt ((wipe σ [j]).set j (some v)) G' L (f i).isSome)
    (he : ∀ i v G' y, i < n → Same G G' → Y i G' v → f i = some y → Ev te ((wipe σ [j]).set j (some v)) G' L R y) : EvF (tLc wi (gName j) tt te [j]) σ G L R ((List.range n).filterMap f) :=
  ef_lcG f hi hn (fun i G' τ => ∃ v, τ = (wipe σ [j]).set j (some v) ∧ Y i G' v) (fun i v G' _ _ y => tg_name y fun G'' s => hY _ _ _ _ s y)
    (fun i τ G' hi s ⟨v, e, y⟩ => by subst e; exact ht i v G' hi s y) (fun i τ G' y hi s ⟨v, e, y'⟩ hf => by subst e; exact he i v G' y hi s y' hf) (fun i τ G' G'' s ⟨v, e, y⟩ => ⟨v, e, hY _ _ _ _ s y⟩)
/-- for a pair of names -/
theorem tg_pair {i j : Nat} {v : V} {P : Hp → V → V → Prop} {a : Addr} {v1 v2 : V} (e : v = .ref a) (hq : SqT K G a [v1, v2]) (hm : ∀ G', Same G G' → P G' v1 v2) :
    Tgt (gTup K 2 (gCons (gName i) (gCons (gName j) gNil))) σ [i, j] G L v (fun G' τ => ∃ w1 w2, τ = ((wipe σ [i, j]).set i (some w1)).set j (some w2) ∧ P G' w1 w2) := fun G1 F H s c A Q q =>
  ⟨a, [v1, v2], e, sqtS (s.trans A.g) hq, rfl, v1, [v2], rfl, v2, [], rfl, rfl, q _ G1 (Same.refl _) A (wipe2 σ i j _ _) ⟨v1, v2, rfl, hm _ s⟩⟩
theorem ef_lc2 {i j n : Nat} {β γ : Type} {R1 : Rel β} {R2 : Rel γ} [Mn R1] [Mn R2] {Y : Nat → Hp → V → Prop} (f : Nat → Option α) [Mn R] (D : Nat → β × γ → Prop) (hi : EvI wi σ G L n Y) (hn : n ≤ 1000000) (hY : ∀ k v G', Y k G' v → ∃ x, D k x ∧ RP K R1 R2 G' v x)
    (ht : ∀ k x v1 v2 G', k < n → Same G G' → D k x → R1 G' v1 x.1 → R2 G' v2 x.2 → EvT tt (((wipe σ [i, j]).set i (some v1)).set j (some v2)) G' L (f k).isSome)
    (he : ∀ k x v1 v2 G' y, k < n → Same G G' → D k x → R1 G' v1 x.1 → R2 G' v2 x.2 → f k = some y → Ev te (((wipe σ [i, j]).set i (some v1)).set j (some v2)) G' L R y) : EvF (tLc wi (gTup K 2 (gCons (gName i) (gCons (gName j) gNil))) tt te [i, j]) σ G L R ((List.range n).filterMap f) :=
  ef_lcG f hi hn (fun k G' τ => ∃ w1 w2, τ = ((wipe σ [i, j]).set i (some w1)).set j (some w2) ∧ ∃ x, D k x ∧ R1 G' w1 x.1 ∧ R2 G' w2 x.2) (fun k v G' _ _ y => by
      obtain ⟨x, d, a, v1, v2, e, hq, r1, r2⟩ := hY k v G' y
      exact tg_pair (P := fun G' w1 w2 => ∃ x, D k x ∧ R1 G' w1 x.1 ∧ R2 G' w2 x.2) e hq fun G'' s => ⟨x, d, mn s r1, mn s r2⟩)
    (fun k τ G' hi s ⟨w1, w2, e, x, d, r1, r2⟩ => by subst e; exact ht k x w1 w2 G' hi s d r1 r2) (fun k τ G' y hi s ⟨w1, w2, e, x, d, r1, r2⟩ hf => by subst e; exact he k x w1 w2 G' y hi s d r1 r2 hf)
    (fun k τ G' G'' s ⟨w1, w2, e, x, d, r1, r2⟩ => ⟨w1, w2, e, x, d, mn s r1, mn s r2⟩)
end
end MW

set_option Elab.async false
set_option linter.all false
set_option maxRecDepth 100000
set_option maxHeartbeats 4000000
/-! Rules of our own: either of two walked things, enumerate(tuple), sum(.., ()), tuple * int of any kind, pair[::-1], list.remove of data, list.count of truths. -/
namespace MW
open PySem PySem.Spec PyProof.Rows L2
section
variable {X : Cx}
theorem pi_or {tg e : Expr} {wi wi' : TI} (h : PI X tg e wi) (h' : PI X tg e wi') : PI X tg e (fun σ H R => wi σ H R ∨ wi' σ H R) := ⟨fun pins s σ H R I q => q.elim (h.run pins s σ H R I) (h'.run pins s σ H R I)⟩
def iSeq (K : Fg) (tl : TE) : TI := fun σ H R => iList K tl σ H R ∨ iTup K tl σ H R
theorem pi_seq {tg l : Expr} {tl : TE} (hl : PE X l tl) : PI X tg l (iSeq X.K tl) := pi_or (pi_list hl) (pi_tup hl)
def rSl (K : Fg) : V → Option Int → Option Int → Hp → VK → Prop := fun x lo hi H Q => rSlL K x lo hi H Q ∨ rSlA K x lo hi H Q
theorem sl_seq : SlR X (rSl X.K) := sl_list.or sl_tupA

/-! enumerate(tuple) -/
theorem meets_enum1 {v : Value} {o : Obj} {Hh : Heap → Prop} (B : Begins v o Hh) :
    Meets (Builtin.«enumerate.__new__» ⟨[.type "enumerate", v], []⟩) (fun _ R s => Hh s.heap ∧
      R (.ok (.ret (.ref (s.heap.push o).objs.size))) { s with heap := (s.heap.push o).push { cls := .type "enumerate", data := .fields #[.none, .bool false, .ref s.heap.objs.size, rawInt 0, .none, .none] } }) :=
  .of_wp fun prog w A R s h => by
    obtain ⟨hp, g, d, tk, os⟩ := s; obtain ⟨h1, h⟩ := h
    have hsub := sub_enumerate
    have q1 : ∀ {A' : Around} {E : Value → Shared → Prop} {Q : Value → Shared → Prop}, Q (.ref hp.objs.size) ⟨hp.push o, g, d, tk, os⟩ → wpAny (model prog w) A' (pyIter v) Q E ⟨hp, g, d, tk, os⟩ :=
      fun q => B.iter prog w _ _ ⟨hp, g, d, tk, os⟩ _ h1 q
    wp_walk using q1
    refine wpAny_stack_any fun st => wpAny_pure ?_
    split
    · rename_i c _ _ _ _ _
      cases (c == Value.type "enumerate")
      · wp_walk using q1
        exact ⟨_, rfl, h⟩
      · wp_walk using q1
        exact ⟨_, rfl, h⟩
    · wp_walk using q1
      exact ⟨_, rfl, h⟩
theorem call_enumT {prog : Program} {w : World} {A : Around} {E : Value → Shared → Prop} {s : Shared} {v : Value} {o : Obj} {Hh : Heap → Prop} {Q : Value → Shared → Prop} (B : Begins v o Hh) (h1 : Hh s.heap)
    (h : ∀ h', IsEnum h' (s.heap.objs.size + 1) s.heap.objs.size 0 .none → h'.get? s.heap.objs.size = some o → h'.objs.size = s.heap.objs.size + 2 →
      (∀ b o, s.heap.get? b = some o → h'.get? b = some o) → Q (.ref (s.heap.objs.size + 1)) { s with heap := h' }) :
    wpAny (model prog w) A (call (.type "enumerate") [v]) Q E s := by
  refine callType_new F.called_enumerate (by decide) (F.typeCall_enumerate_1 _) (F.newCall_enumerate_1 _) (fun obj => F.args_object_init_2 obj _) F.entry_enumerate_new
    (meets_enum1 B) ⟨h1, ?_⟩
  have hz : (s.heap.push o).objs.size = s.heap.objs.size + 1 := Heap.size_push ..
  show _ ∧ _
  rw [hz]
  have he : IsEnum ((s.heap.push o).push { cls := .type "enumerate", data := .fields #[.none, .bool false, .ref s.heap.objs.size, rawInt 0, .none, .none] }) (s.heap.objs.size + 1) s.heap.objs.size 0 .none := by
    have := Heap.get?_push_size (s.heap.push o) (o := { cls := .type "enumerate", data := .fields #[.none, .bool false, .ref s.heap.objs.size, rawInt 0, .none, .none] }) rfl
    rw [hz] at this; exact this
  refine ⟨⟨_, he, rfl⟩, h _ he (Heap.get?_push_of_some _ (Heap.get?_push_size _ B.free)) (by rw [Heap.size_push, hz]) fun b o x => Heap.get?_push_of_some _ (Heap.get?_push_of_some _ x)⟩
/-- the tuple at a, each item in a new pair -/
def IteT (K : Fg) (a : Addr) : It :=
  ⟨fun i H => ∃ (xs : List V) (x : V), SqT K H a xs ∧ xs[i]? = some x, fun i H v H' => ∃ T x, v = .ref T ∧ H T = none ∧ H' = upd H T (.tup [.int (i : Nat), x]) ∧ ∀ xs, SqT K H a xs → xs[i]? = some x, fun i H => ∃ xs : List V, SqT K H a xs ∧ xs.length ≤ i⟩
theorem turn_enumT {P : Program} {w : World} {K : Fg} {elts : List Expr} {kk : Nat} {tpos : Pos} (a e it : Addr) :
    Turn P w K (.Tuple elts kk tpos) (IteT K a) [e, it] e (fun i h => (∃ old, IsEnum h e it ((i : Nat) : Int) old) ∧ h.IsTupleIter it a i ∧ e ≠ it ∧ a ≠ it ∧ e ≠ a) where
  mem := by simp
  obj := fun i h st b hb => by
    obtain ⟨⟨old, he⟩, ⟨o, ho, hc, hd⟩, _⟩ := st
    have e' : b = e ∨ b = it := by simpa using hb
    rcases e' with z | z
    · rw [z]; exact ⟨_, he, fun v q => nomatch q⟩
    · rw [z]; exact ⟨o, ho, fun v q => by rw [hd] at q; cases q⟩
  keep := fun i h h' st k => let ⟨⟨old, he⟩, hi, hne⟩ := st; ⟨⟨old, k e (by simp) _ he⟩, hi.at fun o q => k it (by simp) o q, hne⟩
  item := by
    intro X hP hw hK hc i pins s σ H E I hf st hg
    subst hP hw hK
    obtain ⟨⟨old, he⟩, hit, hne, hai, hea⟩ := st
    obtain ⟨xs, x, hq, hx⟩ := hg
    obtain ⟨its, rv, p, hz⟩ := I.tuple hq
    obtain ⟨u, hu, ru⟩ := rv.get hx
    have hel : e < s.heap.objs.size := Heap.lt_size he
    have hil : it < s.heap.objs.size := by obtain ⟨_, q, _⟩ := hit; exact Heap.lt_size q
    have hlt : i < its.toArray.size := by
      have := (List.getElem?_eq_some_iff.mp hu).1
      simpa using this
    refine wpAny_pyNext_enum_itemC (Draws.tuple (prog := X.prog) (w := X.w) (A := X.A.in1) (I.ok.hd hc) it a hai its.toArray) he ⟨hit, p⟩ hlt hne (by simp; exact ⟨hne, hea⟩) fun x' h' tk hP ho hst' hT hsz hk => ?_
    have ex : x' = u := by
      have hP' : its.toArray[i]? = some x' := hP
      have hu' : its.toArray[i]? = some u := by simpa using hu
      rw [hu'] at hP'
      exact (Option.some.inj hP').symm
    subst ex
    refine ⟨_, rfl, wpAny_letOwnedTupleGo_enum (s := { s with heap := h', toks := tk + 1 }) ho fun h'' he' sb => ?_⟩
    have hT2 : h''.get? s.heap.objs.size = some { cls := .type "tuple", data := .seq #[.int i tk, x'] } := (sb.2 _ (Nat.ne_of_gt hel)).trans hT
    have new : ObjOk X.prog X.w (upd H s.heap.objs.size (.tup [.int (i : Nat), x])) h'' s.heap.objs.size (.tup [.int (i : Nat), x]) :=
      ⟨by show 2 ≤ sizeLine; decide, [.int i tk, x'], .cons ⟨_, rfl⟩ (.cons ru .nil), ⟨_, hT2, rfl, _, rfl⟩⟩
    have I1 : Inv X pins σ (upd H s.heap.objs.size (.tup [.int (i : Nat), x])) { s with heap := h'', toks := tk + 1 } :=
      I.turnedNew (ch := [e, it]) (fun b ob hb q => (sb.2 b (fun z => hb (by simp [z]))).trans (hk b ob (fun z => hb (by simp [z])) (fun z => hb (by simp [z])) q)) hf (Nat.le_refl _) new
    refine ⟨.ref s.heap.objs.size, _, I1, rfl, ⟨_, x, rfl, I.hok.fresh (Nat.le_refl _), rfl, fun ys hy => by rw [I.tuple_inj hy hq]; exact hx⟩, ⟨⟨x', ?_⟩, hst'.1.at fun o q => (sb.2 it (Ne.symm hne)).trans q, hne, hai, hea⟩, fun b hb => ?_⟩
    · have e1 : ((i + 1 : Nat) : Int) = (i : Int) + 1 := by omega
      rw [e1]; exact he'
    · have hb' : b < s.heap.objs.size := by
        have e' : b = e ∨ b = it := by simpa using hb
        rcases e' with z | z
        · rw [z]; exact hel
        · rw [z]; exact hil
      rw [upd_ne (Nat.ne_of_lt hb')]
      exact (hf b hb).1
  done := by
    intro X hP hw hK hc i pins s σ H E I hf st hg
    subst hP hw hK
    obtain ⟨⟨old, he⟩, hit, hne, hai, hea⟩ := st
    obtain ⟨xs, hq, hx⟩ := hg
    obtain ⟨its, rv, p, hz⟩ := I.tuple hq
    obtain ⟨f0, f1, f2, f3, f4, f5⟩ := hf it (by simp)
    have hl := rv.length
    by_cases hi : i = its.toArray.size
    · exact wpAny_pyNext_enum_endD (Draws.tuple (prog := X.prog) (w := X.w) (A := X.A.in1) (I.ok.hd hc) it a hai its.toArray) he (by rw [← hi]; exact ⟨hit, p⟩) fun h' eb => ⟨rfl, I.turned (t' := s.toks) (fun b o hb e => eb b o hb e) f0 f1 f3 f4 f5⟩
    · exact wpAny_pyNext_enum_endD (n := i) (P := fun _ _ => False) (St := fun j h => j = i ∧ h.IsTupleIter it a i ∧ h.IsTuple a its.toArray) (fp := [it, a]) { live := fun _ _ st => let ⟨o, ho, _⟩ := st.2.1; ⟨o, ho⟩, frame := fun _ _ _ st hk => ⟨st.1, st.2.1.at fun o e => hk it (by simp) o e, st.2.2.at fun o e => hk a (by simp) o e⟩, item := fun j s' Q E hj st _ => absurd hj (by omega), done := fun s' Q E st hE => wpAny_nextOf_tuple_end (I.ok.hd hc) st.2.1 st.2.2 (by simp; omega) hE } he ⟨rfl, hit, p⟩ fun h' eb => ⟨rfl, I.turned (t' := s.toks) (fun b o hb e => eb b o hb e) f0 f1 f3 f4 f5⟩
  self := fun A i s Q E st h => let ⟨⟨_, he⟩, _⟩ := st; wpAny_pyIter_enum he h
def iEnumT (K : Fg) (ta : TA) : TI := fun σ H R => ta σ H fun vs H1 => ∃ a xs, vs = [.ref a] ∧ SqT K H1 a xs ∧ R (IteT K a) H1
theorem pi_enumT {e : Expr} {ta : TA} {p pos tpos : Pos} {elts : List Expr} {kk : Nat} (hg : Gl X "enumerate") (hm : X.mg "enumerate" = none) (ha : PA X [e] ta) (hs : starEach [e] X.env = [(false, eval e X.env)] := by rfl) :
    PI X (.Tuple elts kk tpos) (.Call (.Name "enumerate" p) [e] [] pos) (iEnumT X.K ta) := by
  refine ⟨fun pins s σ H R I h => ?_⟩
  refine Call_ (ld_blt I hg hm boot_enumerate (PyProof.Rows.callWith_type1 (thn (ha.run pos pins s σ H _ I h) fun us s1 ⟨vs, H1, I1, r1, q1⟩ => ?_) hs rfl))
  obtain ⟨a, xs, ex, hq, q⟩ := q1
  subst ex
  cases r1 with
  | cons r rr =>
    cases rr
    cases r
    obtain ⟨its, rv, p', hz⟩ := I1.tuple hq
    have hal : a < s1.heap.objs.size := p'.lt
    refine call_enumT (begins_tuple a its.toArray) p' fun h' he hit hsz hk => wpAny_pyIter_enum he ?_
    have I2 : Inv X pins σ H1 { s1 with heap := h' } := I1.kept (t' := s1.toks) hk
    refine ⟨s1.heap.objs.size + 1, [s1.heap.objs.size + 1, s1.heap.objs.size], _, _, H1, rfl, I2, turn_enumT a (s1.heap.objs.size + 1) s1.heap.objs.size, ⟨⟨.none, he⟩, ⟨_, hit, rfl, rfl⟩, Nat.succ_ne_self _, Nat.ne_of_lt hal, Nat.ne_of_gt (Nat.lt_succ_of_lt hal)⟩, fun b hb => ?_, q⟩
    have e' : b = s1.heap.objs.size + 1 ∨ b = s1.heap.objs.size := by simpa using hb
    have hle : s1.heap.objs.size ≤ b := by
      rcases e' with z | z
      · rw [z]; exact Nat.le_add_right _ _
      · rw [z]; exact Nat.le_refl _
    exact I1.fpOk hle (I1.hok.fresh hle)
theorem walk_enumT {K : Fg} {a : Addr} {xs : List V} : Walk (IteT K a) xs.length (fun H => SqT K H a xs) (YPair (fun i => some (.int (i : Nat))) (fun i => xs[i]?)) := by
  refine ⟨fun i _ hi q => ⟨xs, xs[i], q, by simp [hi]⟩, fun _ q => ⟨xs, q, Nat.le_refl _⟩, fun i H v H' _ q y => ?_⟩
  obtain ⟨T, x, h1, h2, h3, h4⟩ := y
  exact ⟨T, .int (i : Nat), x, h1, h2, h3, rfl, h4 xs q⟩
end
section
variable {α : Type} {K : Fg} {σ : L2.St} {G L : Hp} {ta : TE} {R : Rel α}
theorem EvI.inl {wi wi' : TI} {n : Nat} {Y : Nat → Hp → V → Prop} (h : EvI wi σ G L n Y) : EvI (fun σ H R => wi σ H R ∨ wi' σ H R) σ G L n Y := fun G1 F H a b A R q => .inl (h G1 F H a b A R q)
theorem EvI.inr {wi wi' : TI} {n : Nat} {Y : Nat → Hp → V → Prop} (h : EvI wi' σ G L n Y) : EvI (fun σ H R => wi σ H R ∨ wi' σ H R) σ G L n Y := fun G1 F H a b A R q => .inr (h G1 F H a b A R q)
theorem ei_seqL [Mn R] {xs : List α} (h : Ev ta σ G L (RL K R) xs) : EvI (iSeq K ta) σ G L xs.length (fun i G' v => ∃ x, xs[i]? = some x ∧ R G' v x) := (ei_list h).inl
theorem ei_seqM [Mn R] {xs : List α} {k : Nat} {l : Addr} {vs : List V} (hk : σ[k]? = some (some (.ref l))) (hl : L l = some (.lst vs)) (p : Paired (R G) vs xs) : EvI (iSeq K (tVar k)) σ G L xs.length (fun i G' v => ∃ x, xs[i]? = some x ∧ R G' v x) := (ei_listM hk hl p).inl
theorem ei_seqT [Mn R] {xs : List α} (h : Ev ta σ G L (RT K R) xs) : EvI (iSeq K ta) σ G L xs.length (fun i G' v => ∃ x, xs[i]? = some x ∧ R G' v x) := (ei_tup h).inr
theorem ei_enumT [Mn R] {xs : List α} (h : Ev ta σ G L (RT K R) xs) : EvI (iEnumT K (tCons ta tNil)) σ G L xs.length (fun i G' v => ∃ x, xs[i]? = some x ∧ RP K RI R G' v ((i : Int), x)) := fun G1 F H s c A Q q =>
  h G1 F H s c A _ fun v G2 H2 s2 A2 ⟨a, vs, e, h2, p⟩ => ⟨a, vs, by rw [e], sqtS A2.g h2, q _ G2 H2 s2 A2 ⟨fun i H hi sG _ => walk_enumT.goes i H (by rw [Paired.len p]; exact hi) (sqtS sG h2), fun H sG _ => by
      have w := (walk_enumT (K := K) (a := a) (xs := vs)).stops H (sqtS sG h2)
      rwa [Paired.len p] at w, fun i H x H' G3 F' hi s3 _ A3 y => by
    obtain ⟨G4, T, v1, v2, q1, q2, q3, q4, q5, q6⟩ := ypair (K := K) (J := IteT K a) A3 ((walk_enumT (K := K) (a := a) (xs := vs)).yields i H x H' (by rw [Paired.len p]; exact hi) (sqtS (s3.trans A3.g) h2) y)
    obtain ⟨z, h3, h4⟩ := pget' p q6
    exact ⟨G4, q1, q2, z, h3, T, v1, v2, q3, q4, (Option.some.inj q5).symm, mn (s3.trans q1) h4⟩⟩⟩
end
end MW

set_option Elab.async false
set_option linter.all false
set_option maxRecDepth 100000
set_option maxHeartbeats 4000000
/-! sum(.., ()), tuple * int of any kind, pair[::-1], list.remove of data, list.count of data. -/
namespace PySem.SeqAt
open AutoSeq1 (wpAny_loadPart')
open MeetsSeq MeetsSeq2 MeetsSeq3 SeqRoads2
theorem remove_loopAt_mw (l : Addr) (items : Array Value) (n : Nat) (x : Value) (e : Value → Bool) (j : Nat) (hj : j < items.size) (hit : e items[j] = true) (k : Nat) (hs1 : items.size ≤ sizeLine) :
    ∀ i : Nat, j - i = k → i ≤ j → (∀ m (hm : m < items.size), i ≤ m → m < j → e items[m] = false) → Meets (Builtin.«list.remove.loop» ⟨[.ref l, x, rawInt i], []⟩)
      (fun A R s => s.heap.get? l = some { cls := .type "list", dict := none, data := .seq items n, slots := #[] } ∧ (∀ y, y ∈ items → EqAt A.in1 s y x (e y)) ∧ R (.ok (.ret .none)) { s with heap := s.heap.update l (Obj.mapSeq fun xs => xs.eraseIdxIfInBounds j) }) := by
  induction k with
  | zero =>
    intro i hk hij hno prog w A R s h
    obtain ⟨hp, g, d, tk, os⟩ := s; obtain ⟨hl, he, h⟩ := h
    have hij' : i = j := by omega
    subst hij'
    wp_walk using wpAny_loadPart' hl
    have hi : items[((i : Nat) : Int).toNat]? = some items[i] := by simp [hj]
    rw [hi]
    refine wpAny_bind (he _ (Array.getElem_mem hj) prog w _ _ ?_)
    rw [hit]
    have hz' : (items.eraseIdxIfInBounds i).size ≤ sizeLine + 1 := Nat.le_trans (size_erased items _) (Nat.le_succ_of_le hs1)
    wp_walk using (wpAny_updateSeq hl rfl (hz := hs1) (_hz' := hz')), wpAny_loadPart' hl
    simpa using h
  | succ k ih =>
    intro i hk hij hno prog w A R s h
    obtain ⟨hp, g, d, tk, os⟩ := s; obtain ⟨hl, he, h⟩ := h
    have hlt : i < items.size := by omega
    wp_walk using wpAny_loadPart' hl
    have hi : items[((i : Nat) : Int).toNat]? = some items[i] := by simp [hlt]
    have hc : ((i : Int) + 1) = ((i + 1 : Nat) : Int) := by push_cast; rfl
    rw [hi]
    refine wpAny_bind (he _ (Array.getElem_mem hlt) prog w _ _ ?_)
    rw [hno i hlt (Nat.le_refl _) (by omega)]
    wp_walk
    rw [hc]
    exact ⟨plainId_quiet plain_remove_loop _, codeAny_builtin entry_remove_loop (by
      rw [Around.under_plainId plain_remove_loop _]
      exact ih (i + 1) (by omega) (by omega) (fun m hm h1 h2 => hno m hm (by omega) h2) prog w A R _ ⟨hl, he, h⟩)⟩
theorem list_removeAt_mw (l : Addr) (items : Array Value) (n : Nat) (x : Value) (e : Value → Bool) (j : Nat) (hj : j < items.size) (hit : e items[j] = true) (hno : ∀ m (hm : m < items.size), m < j → e items[m] = false) (hs1 : items.size ≤ sizeLine) :
    Meets (Builtin.«list.remove» ⟨[.ref l, x], []⟩)
      (fun A R s => s.heap.get? l = some { cls := .type "list", dict := none, data := .seq items n, slots := #[] } ∧ (∀ y, y ∈ items → EqAt A.in1 s y x (e y)) ∧ R (.ok (.ret .none)) { s with heap := s.heap.update l (Obj.mapSeq fun xs => xs.eraseIdxIfInBounds j) }) := by
  intro prog w A R s h
  obtain ⟨hp, g, d, tk, os⟩ := s; obtain ⟨hl, he, h⟩ := h
  wp_walk using wpAny_loadPart' hl
  exact ⟨plainId_quiet plain_remove_loop _, codeAny_builtin entry_remove_loop (by
    rw [Around.under_plainId plain_remove_loop _]
    exact remove_loopAt_mw l items n x e j hj hit _ hs1 0 rfl (Nat.zero_le _) (fun m hm _ h2 => hno m hm h2) prog w A R _ ⟨hl, he, h⟩)⟩
end PySem.SeqAt
namespace MW
open PySem PySem.Spec PyProof.Rows L2
section
variable {X : Cx}
/-- xs.remove(y) of data: the first equal one -/
def rRemD (K : Fg) : V → List V → Hp → VK → Prop := fun x xs H Q => ∃ (l : Addr) (ws : List V) (y : V) (d : PyData) (ds : List PyData) (j : Nat) (z : PyData), x = V.ref l ∧ xs = [y] ∧ H l = some (.lst ws) ∧ DpAll K H ws ds ∧ Dp K H y d ∧
  SeqAt.shaped (.list ds) = true ∧ SeqAt.shaped d = true ∧ ds[j]? = some z ∧ PyData.eqv z d = true ∧ (∀ (m : Nat) (z' : PyData), m < j → ds[m]? = some z' → PyData.eqv z' d = false) ∧ Q .non (upd H l (.lst (ws.eraseIdx j)))
theorem mt_removeD (hu : X.A.units + 65 < cLine) : MtR X "list.remove" (rRemD X.K) := by
  intro pins s σ H x xs v us Q I rx rxs h
  obtain ⟨l, ws, y, d, ds, j, z, rfl, rfl, hH, ha, hy, sl, sd, hz, hzj, hno, q⟩ := h
  cases rx
  cases rxs with
  | cons ry rt =>
    rename_i uy ut
    cases rt
    obtain ⟨bs, r1⟩ := Dp.reads I d y uy hy ry
    have hxs : PyData.canLayAll0 ds = true := SeqAt.canLay_of_shaped sl
    have hroom : X.A.units + 1 + min (PyData.depthAll ds) d.depth < cLine := room_in_shaped sd hu
    obtain ⟨hlen, its, n, rv, hvl, ho⟩ := I.lstM hH
    obtain ⟨as, h4⟩ := Dp.readsAll I ds _ its ha rv
    have hn : its.length = ds.length := SeqAt.ReadsAll.length ds its as h4
    have hmap : its.map (SeqAt.readOf s.heap) = ds := SeqAt.readsAll_map ds its as hxs h4
    obtain ⟨hjd, _⟩ := List.getElem?_eq_some_iff.mp hz
    have hjl : j < its.length := by omega
    have hj : j < its.toArray.size := by simpa using hjl
    have at_ : ∀ (m : Nat) (hm : m < its.toArray.size) (z' : PyData), ds[m]? = some z' → SeqAt.readOf s.heap its.toArray[m] = z' := by
      intro m hm z' hz'
      have hml : m < its.length := by simpa using hm
      rw [← hmap, List.getElem?_map, List.getElem?_eq_getElem hml] at hz'
      have e1 : SeqAt.readOf s.heap its[m] = z' := Option.some.inj (show some (SeqAt.readOf s.heap its[m]) = some z' from hz')
      simpa using e1
    refine call_meets PySem.F.slot_list_remove ⟨_, ho, rfl⟩ PySem.F.entry_list_remove (PySem.F.args_list_remove_2 _ _)
      (SeqAt.list_removeAt_mw l its.toArray n uy (fun u => PyData.eqv (SeqAt.readOf s.heap u) d) j hj ?_ ?_ (by rw [List.size_toArray]; omega)) ⟨ho, SeqAt.items_eqAt (vs := its.toArray) (show ReadsAll s.heap its.toArray.toList ds as from h4) r1 hxs (SeqAt.canLay_of_shaped sd) hroom, ?_⟩
    · show PyData.eqv (SeqAt.readOf s.heap its.toArray[j]) d = true
      rw [at_ j hj z hz]
      exact hzj
    · intro m hm hmj
      have hmd : m < ds.length := by omega
      have hz' : ds[m]? = some ds[m] := List.getElem?_eq_getElem hmd
      show PyData.eqv (SeqAt.readOf s.heap its.toArray[m]) d = false
      rw [at_ m hm _ hz']
      exact hno m _ hmj hz'
    · refine ⟨.non, _, I.lset (its' := its.eraseIdx j) (t' := s.toks) hH ho ?_ (perase j rv) ?_, rfl, q⟩
      · show its.toArray.eraseIdxIfInBounds j = (its.eraseIdx j).toArray
        rw [List.eraseIdxIfInBounds_toArray]
      · have := List.length_eraseIdx_le ws j
        omega
/-- xs.count(y) of data -/
def rCntD (K : Fg) : V → List V → Hp → VK → Prop := fun x xs H Q => ∃ (l : Addr) (ws : List V) (y : V) (d : PyData) (ds : List PyData), x = V.ref l ∧ xs = [y] ∧ SqL K H l ws ∧ DpAll K H ws ds ∧ Dp K H y d ∧
  SeqAt.shaped (.list ds) = true ∧ SeqAt.shaped d = true ∧ Q (.int (ds.countP fun z => PyData.eqv z d : Nat)) H
theorem mt_countD (hu : X.A.units + 65 < cLine) : MtR X "list.count" (rCntD X.K) := by
  intro pins s σ H x xs v us Q I rx rxs h
  obtain ⟨l, ws, y, d, ds, rfl, rfl, hs, ha, hy, sl, sd, q⟩ := h
  cases rx
  cases rxs with
  | cons ry rt =>
    rename_i uy ut
    cases rt
    obtain ⟨bs, r1⟩ := Dp.reads I d y uy hy ry
    have hxs : PyData.canLayAll0 ds = true := SeqAt.canLay_of_shaped sl
    have hroom : X.A.units + 1 + min (PyData.depthAll ds) d.depth < cLine := room_in_shaped sd hu
    obtain ⟨its, rv, ⟨⟨cls, dd, data, sls⟩, n, ho, hc, hdn, hdt⟩, hlen⟩ := I.list hs
    simp only at hc hdt
    subst hc hdt
    obtain ⟨as, h4⟩ := Dp.readsAll I ds _ its ha rv
    have hmap : its.map (SeqAt.readOf s.heap) = ds := SeqAt.readsAll_map ds its as hxs h4
    refine call_meets PySem.F.slot_list_count ⟨_, ho, rfl⟩ PySem.F.entry_list_count (PySem.F.args_list_count_2 _ _)
      (SeqAt.list_countAt l its.toArray n dd sls uy (fun u => PyData.eqv (SeqAt.readOf s.heap u) d)) ⟨ho, SeqAt.items_eqAt (vs := its.toArray) (show ReadsAll s.heap its.toArray.toList ds as from h4) r1 hxs (SeqAt.canLay_of_shaped sd) hroom, ?_⟩
    refine ⟨.int (ds.countP fun z => PyData.eqv z d : Nat), H, I.tok _, ⟨s.toks, ?_⟩, q⟩
    show Value.int ((its.toArray.toList.countP (fun u => PyData.eqv (SeqAt.readOf s.heap u) d) : Nat) : Int) s.toks = Value.int ((ds.countP (fun z => PyData.eqv z d) : Nat) : Int) s.toks
    rw [← hmap, List.countP_map]
    rfl

/-! sum of tuples, from () -/
theorem tupAt {h h' : Heap} {a : Addr} {vs : Array Value} (t : IsTup h a vs) (k : ∀ o, h.get? a = some o → h'.get? a = some o) : IsTup h' a vs := let ⟨o, e, c, d⟩ := t; ⟨o, k o e, c, d⟩
theorem tup_iter {h : Heap} {a it l : Addr} {i : Nat} {vs : Array Value} (t : IsTup h a vs) (z : h.IsListIter it l i) : a ≠ it := fun q => by
  obtain ⟨o, ho, hc, _⟩ := t
  obtain ⟨o2, ho2, hc2, _⟩ := z
  rw [q, ho2] at ho
  have e : o2 = o := Option.some.inj ho
  rw [e, hc] at hc2
  exact absurd (Value.type.inj hc2) (by decide)
theorem tup_list {h : Heap} {a b : Addr} {vs : Array Value} {o : Obj} (t : IsTup h a vs) (z : h.get? b = some o) (hc : o.cls = .type "list") : a ≠ b := fun q => by
  obtain ⟨o2, ho, hc2, _⟩ := t
  rw [q, z] at ho
  have e : o = o2 := Option.some.inj ho
  rw [← e, hc] at hc2
  exact absurd (Value.type.inj hc2) (by decide)
theorem args_sum2 (a b : Value) : argsOk "sum" ⟨[a, b], []⟩ := by unfold argsOk; kernel_rfl
theorem codeAny_sum_tups {prog : Program} {w : World} {A : Around} {R : Result → Shared → Prop} (hh : A.handled = none) {it S l : Addr} {its : List Value} {cs : List (List Value)} (P : Addr → List Value → Prop) (N0 : Nat) (hl1 : its.length = cs.length) :
    ∀ (k i : Nat) (s : Shared) (acc : Addr) (c : List Value) (m : Nat), its.length - i = k → i ≤ its.length → s.heap.IsListIter it l i → s.heap.IsList l its.toArray → it ≠ l → S ≠ l → S ≠ it → (∀ j (hj : j < its.length), ∃ a, its[j] = .ref a ∧ P a (cs.getD j []) ∧ IsTup s.heap a (cs.getD j []).toArray) →
      s.heap.get? S = some { cls := .type "list", dict := none, data := .seq #[.ref acc] m, slots := #[] } → IsTup s.heap acc c.toArray → (P acc c ∨ N0 ≤ acc) → N0 ≤ s.heap.objs.size → c.length + ((cs.drop i).map List.length).sum ≤ sizeLine →
      (∀ h' r, (∀ b o, b ≠ S → b ≠ it → s.heap.get? b = some o → h'.get? b = some o) → IsTup h' r (c ++ (cs.drop i).flatten).toArray → (P r (c ++ (cs.drop i).flatten) ∨ N0 ≤ r) → R (.ok (.ret (.ref r))) { s with heap := h' }) →
      codeAny (model prog w) A (.builtin "sum.loop" ⟨[.ref it, .ref S, rawInt 2, rawInt 0], []⟩) R s := by
  intro k
  induction k with
  | zero =>
    intro i s acc c m hk hi hit hl n1 n2 n3 htup hS hacc hP hN hz hR
    have hin : i = its.length := by omega
    have hdrop : cs.drop i = [] := by rw [List.drop_eq_nil_iff]; omega
    refine codeAny_builtin F.entry_sum_loop ?_
    rw [Around.under_plainId F.plain_sum_loop _]
    show wpAny _ A.in1 (seqItems? (.ref S) >>= _) _ _ s
    refine wpAny_bind (wpAny_seqItems hS rfl ?_)
    show wpAny _ A.in1 (tryCatch (pyNext (.ref it)) _ >>= _) _ _ s
    refine wpAny_bind (wpAny_tryCatch (wpAny_pyNext_list_end (A := A.in1) hh hit hl (by simp; omega) fun h' eb => ?_))
    refine wpAny_pure ?_
    rw [hdrop] at hR
    have k2 : ∀ b o, b ≠ S → b ≠ it → s.heap.get? b = some o → h'.get? b = some o := fun b o _ hb e => eb b o hb e
    have ne : acc ≠ it := tup_iter hacc hit
    refine hR h' acc k2 ?_ ?_
    · rw [List.flatten_nil, List.append_nil]
      exact tupAt hacc fun o e => eb acc o ne e
    · rw [List.flatten_nil, List.append_nil]
      exact hP
  | succ k ih =>
    intro i s acc c m hk hi hit hl n1 n2 n3 htup hS hacc hP hN hz hR
    have hlt : i < its.length := by omega
    obtain ⟨a, ea, hPa, hta⟩ := htup i hlt
    have hx : its.toArray[i]? = some (.ref a) := by simp [hlt, ea]
    have hdrop : cs.drop i = cs.getD i [] :: cs.drop (i + 1) := by
      rw [List.drop_eq_getElem_cons (by omega)]
      simp [List.getD, show i < cs.length by omega]
    rw [hdrop, List.map_cons, List.sum_cons] at hz
    rw [hdrop, List.flatten_cons] at hR
    generalize cs.getD i [] = ci at hPa hta hz hR
    refine codeAny_builtin F.entry_sum_loop ?_
    rw [Around.under_plainId F.plain_sum_loop _]
    show wpAny _ A.in1 (seqItems? (.ref S) >>= _) _ _ s
    refine wpAny_bind (wpAny_seqItems hS rfl ?_)
    show wpAny _ A.in1 (tryCatch (pyNext (.ref it)) _ >>= _) _ _ s
    refine wpAny_bind (wpAny_tryCatch (wpAny_pyNext_list_item (A := A.in1) hit hl hx fun h' hit' sb => ?_))
    have notL : ∀ {b : Addr} {vs : Array Value}, IsTup s.heap b vs → b ≠ it ∧ b ≠ S := fun {b vs} t => ⟨tup_iter t hit, tup_list t hS rfl⟩
    have old1 : ∀ b o, b ≠ it → s.heap.get? b = some o → h'.get? b = some o := fun b o hb e => (sb.2 b hb).trans e
    have hS1 : h'.get? S = some { cls := .type "list", dict := none, data := .seq #[.ref acc] m, slots := #[] } := old1 S _ n3 hS
    have hacc1 : IsTup h' acc c.toArray := tupAt hacc fun o e => old1 acc o (notL hacc).1 e
    have hta1 : IsTup h' a ci.toArray := tupAt hta fun o e => old1 a o (notL hta).1 e
    have hsz1 : h'.objs.size = s.heap.objs.size := sb.1
    show wpAny _ A.in1 ((holding [Value.ref a] (binaryOp .Add (.ref acc) (.ref a))).attempt >>= _) _ _ _
    -- behind the sum r of both, at heap h2
    have fin : ∀ (h2 : Heap) (r : Addr), (∀ b o, h'.get? b = some o → h2.get? b = some o) → s.heap.objs.size ≤ h2.objs.size → IsTup h2 r (c ++ ci).toArray → (P r (c ++ ci) ∨ N0 ≤ r) →
        wpAny (model prog w) A.in1 (updateSeq S (fun _ => #[.ref r]) >>= fun _ => letGo [.ref acc, .ref a] >>= fun _ => updateSeq S (fun _ => #[.ref r]) >>= fun _ => again (.builtin "sum.loop" ⟨[.ref it, .ref S, rawInt 2, rawInt 0], []⟩))
          (fun fin s' => match fin with | .done f => R (.ok f) s' | .again c' => c'.quiet = true ∧ codeAny (model prog w) A c' R s') (fun e s' => R (.error e) s') { s with heap := h2 } := by
      intro h2 r k2 hsz2 hr hPr
      have hS2 := k2 _ _ hS1
      refine wpAny_bind (wpAny_updateSeq hS2 rfl ?_)
      have hS3 := Heap.get?_update_self (Obj.mapSeq fun _ => #[Value.ref r]) hS2 rfl
      refine wpAny_bind (wpAny_letGo ?_)
      refine wpAny_bind (wpAny_updateSeq hS3 rfl ?_)
      have oth : ∀ b o, b ≠ S → h2.get? b = some o → ((h2.update S (Obj.mapSeq fun _ => #[Value.ref r])).update S (Obj.mapSeq fun _ => #[Value.ref r])).get? b = some o := fun b o hb e =>
        (Heap.get?_update_other _ _ (Ne.symm hb)).trans ((Heap.get?_update_other _ _ (Ne.symm hb)).trans e)
      refine wpAny_pure ⟨plainId_quiet F.plain_sum_loop _, ih (i + 1) _ r (c ++ ci) _ (by omega) hlt ?_ ?_ n1 n2 n3 ?_ (Heap.get?_update_self _ hS3 rfl) ?_ hPr ?_ ?_ fun h3 r3 k3 ht3 hP3 => ?_⟩
      · exact hit'.at fun o e => oth it o (Ne.symm n3) (k2 it o e)
      · exact hl.at fun o e => oth l o (Ne.symm n2) (k2 l o (old1 l o (Ne.symm n1) e))
      · intro j hj
        obtain ⟨a2, e2, hP2, ht2⟩ := htup j hj
        exact ⟨a2, e2, hP2, tupAt ht2 fun o e => oth a2 o (notL ht2).2 (k2 a2 o (old1 a2 o (notL ht2).1 e))⟩
      · exact tupAt hr fun o e => oth r o (tup_list hr hS2 rfl) e
      · have e1 : ((h2.update S (Obj.mapSeq fun _ => #[Value.ref r])).update S (Obj.mapSeq fun _ => #[Value.ref r])).objs.size = h2.objs.size := by simp [Heap.size_update]
        show N0 ≤ ((h2.update S (Obj.mapSeq fun _ => #[Value.ref r])).update S (Obj.mapSeq fun _ => #[Value.ref r])).objs.size
        rw [e1]
        exact Nat.le_trans hN hsz2
      · rw [List.length_append]
        omega
      · rw [List.append_assoc] at ht3 hP3
        exact hR h3 r3 (fun b o hb1 hb2 e => k3 b o hb1 hb2 (oth b o hb1 (k2 b o (old1 b o hb2 e)))) ht3 hP3
    by_cases hc : c = []
    · subst hc
      refine wpAny_bind (wpAny_attempt (wpAny_holding (cat_tup0 hacc1 hta1 ?_)))
      have q := fin h' a (fun _ _ e => e) (Nat.le_of_eq hsz1.symm) (by rw [List.nil_append]; exact hta1) (.inl (by rw [List.nil_append]; exact hPa))
      exact q
    · refine wpAny_bind (wpAny_attempt (wpAny_holding (HT.cat_tup hacc1 hta1 hc (fun z => ?_) (fun z => ?_) (by omega))))
      · have q := fin h' acc (fun _ _ e => e) (Nat.le_of_eq hsz1.symm) (by rw [z, List.append_nil]; exact hacc1) (by rw [z, List.append_nil]; exact hP)
        exact q
      · have q := fin (h'.push { cls := .type "tuple", data := .seq (c ++ ci).toArray }) h'.objs.size (fun b o e => Heap.get?_push_of_some _ e) (by rw [Heap.size_push, hsz1]; exact Nat.le_succ _) (IsTup.new _ _) (.inr (by rw [hsz1]; exact hN))
        exact q
/-- sum(ts, ()) of a list of tuples -/
def rSumT (K : Fg) : List V → Hp → VK → Prop := fun vs H Q => ∃ (l t0 : Addr) (as : List V) (vss : List (List V)), vs = [V.ref l, V.ref t0] ∧ SqL K H l as ∧ SqT K H t0 [] ∧ Paired (fun v ws => ∃ a, v = V.ref a ∧ SqT K H a ws) as vss ∧ (vss.map List.length).sum ≤ 1000000 ∧
  (∀ a, ((a = t0 ∧ vss.flatten = []) ∨ ∃ j : Nat, as[j]? = some (V.ref a) ∧ vss[j]? = some vss.flatten) → Q (.ref a) H) ∧ ∀ p, H p = none → Q (.ref p) (upd H p (.tup vss.flatten))
end
end MW

set_option Elab.async false
set_option linter.all false
set_option maxRecDepth 100000
set_option maxHeartbeats 4000000
/-! sum(ts, ()) as a call, tuple * int of any kind, pair[::-1]. -/
namespace MW
open PySem PySem.Spec PyProof.Rows L2
theorem sub_tup_str : isSubtype (.type "tuple") (.type "str") = pure false := by rw [isSubtype_type]; kernel_rfl
theorem sub_tup_bytes : isSubtype (.type "tuple") (.type "bytes") = pure false := by rw [isSubtype_type]; kernel_rfl
theorem sub_tup_bytearray : isSubtype (.type "tuple") (.type "bytearray") = pure false := by rw [isSubtype_type]; kernel_rfl
theorem vals_flatten : ∀ {vss : List (List V)} {cs : List (List Value)}, Paired Vals vss cs → Vals vss.flatten cs.flatten
  | _, _, .nil => .nil
  | _, _, .cons r t => r.append (vals_flatten t)
theorem vals_lens : ∀ {vss : List (List V)} {cs : List (List Value)}, Paired Vals vss cs → (cs.map List.length).sum = (vss.map List.length).sum
  | _, _, .nil => rfl
  | _, _, .cons r t => by rw [List.map_cons, List.map_cons, List.sum_cons, List.sum_cons, vals_lens t, r.length]
section
variable {X : Cx}
theorem cr_sumT (hc : X.calm = true) : CallR X (.builtin "sum") (rSumT X.K) := by
  intro pins s σ H xs us Q I r h
  obtain ⟨l, t0, as, vss, rfl, hL, hT, hp, hz, q1, q2⟩ := h
  obtain ⟨u1, u2, rfl, r1, r2⟩ := vals2 r
  cases (show u1 = Value.ref l from r1)
  cases (show u2 = Value.ref t0 from r2)
  obtain ⟨its, rv, pl, hlen⟩ := I.list hL
  obtain ⟨ts, rt, p0, _⟩ := I.tuple hT
  cases rt
  -- the contents
  have key : ∀ {as : List V} {vss : List (List V)} {its : List Value}, Paired (fun v ws => ∃ a, v = V.ref a ∧ SqT X.K H a ws) as vss → Vals as its → ∃ cs : List (List Value), Paired Vals vss cs ∧ its.length = cs.length ∧
      ∀ j (hj : j < its.length), ∃ a, its[j] = Value.ref a ∧ (∃ ws, (as[j]? = some (V.ref a) ∧ vss[j]? = some ws) ∧ Vals ws (cs.getD j [])) ∧ IsTup s.heap a (cs.getD j []).toArray := by
    intro as
    induction as with
    | nil =>
      intro vss its p v
      cases p
      cases v
      exact ⟨[], .nil, rfl, fun j hj => absurd hj (Nat.not_lt_zero j)⟩
    | cons x as ih =>
      intro vss its p v
      cases p with
      | cons hx t =>
        cases v with
        | cons rx t' =>
          obtain ⟨a, ea, hs⟩ := hx
          subst ea
          obtain ⟨cs, c1, c2, c3⟩ := ih t t'
          obtain ⟨us, ru, pt, _⟩ := I.tuple hs
          refine ⟨us :: cs, .cons ru c1, by rw [List.length_cons, List.length_cons, c2], fun j hj => ?_⟩
          cases j with
          | zero => exact ⟨a, (show _ = Value.ref a from rx), ⟨_, ⟨rfl, rfl⟩, ru⟩, pt⟩
          | succ j => 
            obtain ⟨b, z1, ⟨ws, ⟨z2, z3⟩, z4⟩, z5⟩ := c3 j (by simpa using hj)
            exact ⟨b, z1, ⟨ws, ⟨by simpa using z2, by simpa using z3⟩, z4⟩, z5⟩
  obtain ⟨cs, c1, c2, c3⟩ := key hp rv
  have hsum : ((cs.drop 0).map List.length).sum ≤ 1000000 := by rw [List.drop_zero, vals_lens c1]; exact hz
  have hcl : s.heap.objs.size ≤ s.heap.objs.size := Nat.le_refl _
  refine call_function_tree F.kind_sum F.plain_sum F.entry_sum (args_sum2 _ _) ?_
  unfold Builtin.«sum»
  simp only [List.length_cons, List.length_nil]
  rw [if_neg (by decide)]
  refine wpAny_bind (wpAny_of_eq (show Builtin.Builtins.bindParams "sum" ["start"] 0 ⟨[Value.ref t0], []⟩ = pure [some (Value.ref t0)] from rfl) ?_)
  refine wpAny_bind (wpAny_pyIter_list pl.isList ?_)
  have p0' : IsTup (s.heap.push { cls := .type "list_iterator", data := .fields #[.ref l, .int 0 0] }) t0 ([] : List Value).toArray := tupAt p0 fun o e => Heap.get?_push_of_some _ e
  have hty : Shared.TypeIs { s with heap := s.heap.push { cls := .type "list_iterator", data := .fields #[.ref l, .int 0 0] } } (.ref t0) "tuple" := by
    obtain ⟨o, e, c, _⟩ := p0'
    exact ⟨o, e, c⟩
  refine wpAny_bind (wpAny_pure ?_)
  simp only [List.forIn_cons, List.forIn_nil]
  refine wpAny_bind (wpAny_bind (wpAny_bind (wpAny_isInstance (T := "tuple") (b := false) hty sub_tup_str ?_)))
  simp only [Bool.false_eq_true, if_false]
  refine wpAny_pure (wpAny_bind (wpAny_bind (wpAny_isInstance (T := "tuple") (b := false) hty sub_tup_bytes ?_)))
  simp only [Bool.false_eq_true, if_false]
  refine wpAny_pure (wpAny_bind (wpAny_bind (wpAny_isInstance (T := "tuple") (b := false) hty sub_tup_bytearray ?_)))
  simp only [Bool.false_eq_true, if_false]
  refine wpAny_pure (wpAny_pure ?_)
  refine wpAny_bind (wpAny_newObj_type ?_)
  have hsz1 : (s.heap.push { cls := .type "list_iterator", data := .fields #[.ref l, .int 0 0] }).objs.size = s.heap.objs.size + 1 := Heap.size_push ..
  have kp : ∀ b o, s.heap.get? b = some o → ((s.heap.push { cls := .type "list_iterator", data := .fields #[.ref l, .int 0 0] }).push { cls := .type "list", data := .seq [Value.ref t0].toArray }).get? b = some o := fun b o e => Heap.get?_push_of_some _ (Heap.get?_push_of_some _ e)
  have hl' : l < s.heap.objs.size := by
    obtain ⟨o, _, e, _⟩ := pl
    exact Heap.lt_size e
  refine wpAny_pure ⟨plainId_quiet F.plain_sum_loop _, ?_⟩
  show codeAny _ _ (.builtin "sum.loop" ⟨[.ref s.heap.objs.size, .ref (s.heap.push { cls := .type "list_iterator", data := .fields #[.ref l, .int 0 0] }).objs.size, rawInt 2, rawInt 0], []⟩) _ _
  refine codeAny_sum_tups (I.ok.hd hc) (l := l) (its := its) (cs := cs) (fun b c => ∃ ws, ((b = t0 ∧ ws = []) ∨ ∃ j : Nat, as[j]? = some (V.ref b) ∧ vss[j]? = some ws) ∧ Vals ws c) s.heap.objs.size c2 its.length 0 _ t0 [] 0 rfl (Nat.zero_le _) ?_ ?_ ?_ ?_ ?_ ?_ ?_ ?_ ?_ ?_ ?_ ?_
  · exact ⟨_, Heap.get?_push_of_some _ (Heap.get?_push_size _ rfl), rfl, rfl⟩
  · exact pl.isList.at fun o e => kp l o e
  · exact Nat.ne_of_gt hl'
  · rw [hsz1]; exact Nat.ne_of_gt (Nat.lt_succ_of_lt hl')
  · rw [hsz1]; exact Nat.succ_ne_self _
  · intro j hj
    obtain ⟨a, e1, ⟨ws, e2, e4⟩, e3⟩ := c3 j hj
    exact ⟨a, e1, ⟨ws, .inr ⟨j, e2⟩, e4⟩, tupAt e3 fun o e => kp a o e⟩
  · exact Heap.get?_push_size _ rfl
  · exact tupAt p0 fun o e => kp t0 o e
  · exact .inl ⟨[], .inl ⟨rfl, rfl⟩, .nil⟩
  · show s.heap.objs.size ≤ (Heap.push _ _).objs.size
    rw [Heap.size_push, hsz1]
    omega
  · rw [List.length_nil, Nat.zero_add, sizeLine_eq]
    omega
  · intro h' r hk ht hP
    rw [List.nil_append, List.drop_zero] at ht hP
    have old : ∀ b o, s.heap.get? b = some o → h'.get? b = some o := fun b o e => hk b o (by rw [hsz1]; exact Nat.ne_of_lt (Nat.lt_succ_of_lt (Heap.lt_size e))) (Nat.ne_of_lt (Heap.lt_size e)) (kp b o e)
    have fl := vals_flatten c1
    rcases hP with ⟨ws, hw1, hw2⟩ | hnew
    · have J : Inv X pins σ H { s with heap := h' } := I.kept (t' := s.toks) old
      have e1 : ws = vss.flatten := Vals.inj hw2 fl
      exact ⟨.ref r, H, J, rfl, q1 r (by rw [e1] at hw1; exact hw1)⟩
    · have new : ObjOk X.prog X.w (upd H r (.tup vss.flatten)) h' r (.tup vss.flatten) := ⟨by
        have e2 := vals_lens c1
        rw [List.length_flatten, sizeLine_eq]
        omega, cs.flatten, fl, ht⟩
      exact ⟨.ref r, _, I.laid (t' := s.toks) old hnew new, rfl, q2 r (I.hok.fresh hnew)⟩
end
end MW

set_option Elab.async false
set_option linter.all false
set_option maxRecDepth 100000
set_option maxHeartbeats 4000000
/-! tuple * int of any kind, pair[::-1]. -/
namespace MW
open PySem PySem.Spec PyProof.Rows L2
/-! tuple * 0, tuple * 1 -/
theorem tuple_mul1 (l : Addr) (items : Array Value) (n : Nat) (dd : Option Addr) (sl : Array (Option Value)) (u : Tok) :
    Meets (Builtin.«tuple.__mul__» ⟨[.ref l, .int 1 u], []⟩) (fun _ R s => s.heap.get? l = some { cls := .type "tuple", dict := dd, data := .seq items n, slots := sl } ∧ R (.ok (.ret (Value.ref l))) s) :=
  .of_wp fun prog w A R s h => by
    obtain ⟨hp, g, d, tk, os⟩ := s
    obtain ⟨hl, h⟩ := h
    have f1 := AutoSeq1.idx_int
    wp_walk using wpAny_loadPart' hl
    repeat (first
      | (refine wpAny_ite_false (decide_eq_false (by decide)) ?_; wp_walk using wpAny_loadPart' hl)
      | (refine wpAny_ite_true (decide_eq_true (by simp)) ?_; wp_walk using wpAny_loadPart' hl))
    exact ⟨_, rfl, h⟩
theorem tuple_mul0 (l : Addr) (items : Array Value) (n : Nat) (dd : Option Addr) (sl : Array (Option Value)) (u : Tok) (he : items.isEmpty = false) :
    Meets (Builtin.«tuple.__mul__» ⟨[.ref l, .int 0 u], []⟩) (fun _ R s => s.heap.get? l = some { cls := .type "tuple", dict := dd, data := .seq items n, slots := sl } ∧
      R (.ok (.ret (Value.ref s.heap.objs.size))) { s with heap := s.heap.push { cls := Value.type "tuple", data := Data.seq #[] }, toks := s.toks }) :=
  .of_wp fun prog w A R s h => by
    obtain ⟨hp, g, d, tk, os⟩ := s
    obtain ⟨hl, h⟩ := h
    have f1 := AutoSeq1.idx_int
    wp_walk using wpAny_loadPart' hl
    repeat (first
      | (refine wpAny_ite_false (decide_eq_false (by decide)) ?_; wp_walk using wpAny_loadPart' hl)
      | (refine wpAny_ite_false (decide_eq_false (by rw [he]; decide)) ?_; wp_walk using wpAny_loadPart' hl)
      | (refine wpAny_ite_true (decide_eq_true (by simp)) ?_; wp_walk using wpAny_loadPart' hl))
    exact ⟨_, rfl, h⟩
section
variable {X : Cx}
/-- t * k, t not empty, k from 0 on -/
def rRepA (K : Fg) : R2 := fun x y H Q => ∃ l k xs, x = .ref l ∧ y = .int k ∧ SqT K H l xs ∧ xs ≠ [] ∧ 0 ≤ k ∧ k ≤ 1000 ∧ xs.length ≤ 1000 ∧ (k = 1 → Q (.ref l) H) ∧ (k ≠ 1 → ∀ p, H p = none → Q (.ref p) (upd H p (.tup (List.replicate k.toNat xs).flatten)))
theorem op_repA : OpR X (binaryOp .Mult) (rRepA X.K) := by
  intro pins s σ H x y v u Q I rx ry h
  obtain ⟨l, k, xs, rfl, rfl, hT, hne, h1, h2, hz, q1, q2⟩ := h
  by_cases k2 : 2 ≤ k
  · exact op_repT pins s σ H _ _ v u Q I rx ry ⟨l, k, xs, rfl, rfl, hT, hne, k2, h2, hz, q2 (by omega)⟩
  · cases rx
    obtain ⟨t, rfl⟩ := ry
    obtain ⟨its, r, ⟨⟨cls, dd, data, sl⟩, ho, hc, n, hd⟩, hs⟩ := I.tuple hT
    simp only at hc hd
    subst hc hd
    have hle : its.length = xs.length := r.length.symm
    have hn : its ≠ [] := fun e => hne (by
      rw [e] at hle
      exact List.eq_nil_of_length_eq_zero hle.symm)
    have hi : its.toArray.isEmpty = false := by
      cases its with
      | nil => exact absurd rfl hn
      | cons a b => rfl
    by_cases k1 : k = 1
    · subst k1
      exact wpAny_binaryOp_repeat_ref (T := "tuple") (U := "int") (by decide) ⟨_, ho, rfl⟩ (fun s' => typeIs_int s' 1 t) noFill_tuple_mul F.fills_int_mul F.slot_int_rmul repeat_tuple F.slot_int_index.lookup
        (call_meets F.slot_int_rmul (typeIs_int s 1 t) F.entry_int_rmul (F.args_int_rmul_2 _ _) (int_rmul_tuple 1 t l its.toArray n dd sl)
          ⟨ho, rfl, ⟨_, ho, rfl⟩, call_meets F.slot_tuple_mul ⟨_, ho, rfl⟩ F.entry_tuple_mul (F.args_tuple_mul_2 _ _) (tuple_mul1 l its.toArray n dd sl t) ⟨ho, ⟨.ref l, H, I, rfl, q1 rfl⟩⟩⟩)
    · have k0 : k = 0 := by omega
      subst k0
      refine wpAny_binaryOp_repeat_ref (T := "tuple") (U := "int") (by decide) ⟨_, ho, rfl⟩ (fun s' => typeIs_int s' 0 t) noFill_tuple_mul F.fills_int_mul F.slot_int_rmul repeat_tuple F.slot_int_index.lookup
        (call_meets F.slot_int_rmul (typeIs_int s 0 t) F.entry_int_rmul (F.args_int_rmul_2 _ _) (int_rmul_tuple 0 t l its.toArray n dd sl)
          ⟨ho, rfl, ⟨_, ho, rfl⟩, call_meets F.slot_tuple_mul ⟨_, ho, rfl⟩ F.entry_tuple_mul (F.args_tuple_mul_2 _ _) (tuple_mul0 l its.toArray n dd sl t hi) ⟨ho, ?_⟩⟩)
      exact ⟨.ref s.heap.objs.size, _, I.laid (t' := s.toks) (o := .tup []) (fun b ob q => Heap.get?_push_of_some _ q) (Nat.le_refl _) ⟨Nat.zero_le _, [], .nil, IsTup.new _ _⟩, rfl, q2 (by decide) _ (I.hok.fresh (Nat.le_refl _))⟩
/-! pair[::-1] -/
theorem getItem_pair_rev {prog : Program} {w : World} {A : Around} {E : Value → Shared → Prop} {s : Shared} {t sl : Addr} {x y : Value} {vl vu vt : Value} {Q : Value → Shared → Prop} (ht : IsTup s.heap t #[x, y]) (hs : s.heap.IsSliceOf sl vl vu vt) (pl : IsPart vl none) (pu : IsPart vu none) (pt : IsPart vt (some (-1)))
    (h : Q (.ref s.heap.objs.size) { s with heap := s.heap.push { cls := .type "tuple", data := .seq #[y, x] } }) : wpAny (model prog w) A (getItem (.ref t) (.ref sl)) Q E s := by
  obtain ⟨os, hos, hcs, hds⟩ := id hs
  have hTs : s.TypeIs (.ref sl) "slice" := ⟨os, hos, hcs⟩
  unfold getItem
  try with_reducible refine wpAny_holding ?_
  first | refine wpAny_bind (wpAny_pure ?_) | skip
  refine wpAny_bind (wpAny_sequenceKey ht.typeIs (by decide) ?_)
  refine wpAny_bind (wpAny_callSpecial?_slot (name := Str.ofString "__getitem__") ht.typeIs PyProof.Rows.slot_tuple_getitem
    (wpAny_call_entry PyProof.Rows.slot_tuple_getitem ht.typeIs entry_tuple_getitem ?_ (args_tuple_getitem _ _)))
  show wpAny _ _ (Builtin.Tuple.tupleItemsOf (.ref t) >>= _) _ _ s
  refine wpAny_bind (tupleItemsOf_ ht ?_)
  refine wpAny_bind (wpAny_typeOf hTs ?_)
  rw [if_pos (by decide)]
  refine wpAny_bind ?_
  unfold Builtin.Slice.sliceApplied Builtin.Slice.sliceFields
  refine wpAny_bind (wpAny_bind (wpAny_field hos hds (x := vl) rfl (wpAny_bind (wpAny_field hos hds (x := vu) rfl (wpAny_bind (wpAny_field hos hds (x := vt) rfl (wpAny_pure ?_)))))))
  refine wpAny_bind (HT.slicePart_ pt ?_)
  show wpAny _ _ (if ((-1 : Int) == 0) = true then _ else _) _ _ s
  rw [if_neg (by decide)]
  refine wpAny_bind (HT.slicePart_ pl (wpAny_bind (HT.slicePart_ pu (wpAny_bind (wpAny_pure ?_)))))
  refine wpAny_pure ?_
  show wpAny _ _ (if (((1 : Int) == 0 && (-1 : Int) == 1 && (2 : Nat) == 2)) = true then _ else _) _ _ s
  rw [if_neg (by decide)]
  have e : ((List.range (Builtin.Slice.slicePlaces 1 (-1) (-1))).filterMap fun (k : Nat) => (#[x, y] : Array Value)[((1 : Int) + (k : Int) * (-1)).toNat]?).toArray = #[y, x] := rfl
  show wpAny _ _ (Builtin.Tuple.tupleExact ((List.range (Builtin.Slice.slicePlaces 1 (-1) (-1))).filterMap fun (k : Nat) => (#[x, y] : Array Value)[((1 : Int) + (k : Int) * (-1)).toNat]?).toArray >>= fun r => ret r) _ _ s
  rw [e]
  exact wpAny_bind (m := Builtin.Tuple.tupleExact _) (wpAny_newObj_type (wpAny_pure ⟨_, rfl, wpAny_pure h⟩) (by show 2 ≤ sizeLine; decide))
def tRevT (K : Fg) (te : TE) : TE := fun σ H Q => te σ H fun x H1 => ∃ a v1 v2, x = .ref a ∧ SqT K H1 a [v1, v2] ∧ ∀ p, H1 p = none → Q (.ref p) (upd H1 p (.tup [v2, v1]))
theorem pe_revT {e : Expr} {te : TE} {k : Nat} {p1 p2 p3 pos : Pos} (he : PE X e te) : PE X (.Subscript e (.Slice none none (some (.UnaryOp .USub (.Constant (.int 1) k p1) p2)) p3) pos) (tRevT X.K te) := by
  refine ⟨fun pins s σ H Q I h => ?_⟩
  refine Subscript_ (thn (he.run pins s σ H _ I h) fun v s1 ⟨x, H1, I1, r1, q1⟩ => ?_)
  obtain ⟨a, v1, v2, ex, hx, q⟩ := q1
  subst ex
  cases r1
  have hst : PO X (some (.UnaryOp .USub (.Constant (.int 1) k p1) p2)) (tPart (tUn (rU fun i => .int (-i)) (tC (.int 1)))) := po_some (pe_un un_neg pe_int)
  refine wpAny_Slice (thn (po_none.run pins s1 σ H1 (fun o H2 => o = none ∧ H2 = H1) I1 ⟨rfl, rfl⟩) fun vl s2 ⟨l, H2, I2, pl, el, e2⟩ => ?_)
  subst el e2
  refine thn (po_none.run pins s2 σ H2 (fun o H3 => o = none ∧ H3 = H2) I2 ⟨rfl, rfl⟩) fun vu s3 ⟨u, H3, I3, pu, eu, e3⟩ => ?_
  subst eu e3
  refine thn (hst.run pins s3 σ H3 (fun o H4 => o = some (-1) ∧ H4 = H3) I3 ⟨1, rfl, -1, rfl, rfl, rfl⟩) fun vs s4 ⟨o, H4, I4, ps, eo, e4⟩ => ?_
  subst eo e4
  have I5 : Inv X pins σ H4 { s4 with heap := s4.heap.push { cls := .type "slice", data := .fields #[vl, vu, vs] } } := I4.kept (t' := s4.toks) fun b ob q => Heap.get?_push_of_some _ q
  obtain ⟨its, r, ht, hz⟩ := I5.tuple hx
  obtain ⟨u1, u2, e5, ru1, ru2⟩ := vals2 r
  subst e5
  show wpAny (model X.prog X.w) X.A (subscriptTail e (.Slice none none (some (.UnaryOp .USub (.Constant (.int 1) k p1) p2)) p3) (.ref a) (.ref s4.heap.objs.size)) (EP X pins σ Q) X.xe { s4 with heap := s4.heap.push { cls := .type "slice", data := .fields #[vl, vu, vs] } }
  refine tail_any (ops := [.ref a, .ref s4.heap.objs.size]) ht.typeIs (PyProof.Rows.slot_tuple_getitem.lookup) ?_ (by with_unfolding_all rfl)
  refine getItem_pair_rev ht (Heap.IsSliceOf.new _ vl vu vs) pl pu ps ?_
  exact ⟨.ref _, _, I5.laid (t' := s4.toks) (o := .tup [v2, v1]) (fun b ob q => Heap.get?_push_of_some _ q) (Nat.le_refl _) ⟨by show 2 ≤ sizeLine; decide, [u2, u1], .cons ru2 (.cons ru1 .nil), IsTup.new _ _⟩, rfl, q _ (I5.hok.fresh (Nat.le_refl _))⟩
end
end MW

set_option Elab.async false
set_option linter.all false
set_option maxRecDepth 100000
set_option maxHeartbeats 4000000
/-! Defs as known facts, instances, statements. -/
namespace MW
open PySem PySem.Spec PyProof.Rows L2

/-! ### defs, classes, methods as facts of a context -/
structure Fd (P : Program) (w : World) (K : Fg) (mg : Str → Option Value) (base : Heap) (CX : CXT) (x : Str) (ps : List Str) (k : Nat) (sp : Sp) : Prop where
  ex : ∃ (f : Addr) (fd : FuncData), FnOk P w K mg base CX k f fd ps sp ∧ mg x = some (.ref f) ∧ PySem.W.keepIn K (.ref f) = true ∧ Binds K fd ps []
/-- a def of the text, where it stands -/
structure Has (K : Fg) (mg : Str → Option Value) (x : Str) (st : Stmt) (ps : List Str) : Prop where
  ex : ∃ (f : Addr) (fd : FuncData), Fun K x x st f fd ∧ mg x = some (.ref f) ∧ Binds K fd ps []
/-- a method (or __init__) of a class, where it stands -/
structure HasM (K : Fg) (C : Addr) (m qual : Str) (st : Stmt) (ps : List Str) : Prop where
  ex : ∃ (f : Addr) (fd : FuncData), Fun K m qual st f fd ∧ PySem.W.findIn K (.ref C) m = some (some (.ref f)) ∧ PySem.W.isFn K (.ref f) = true ∧ Binds K fd ps []
structure Md (P : Program) (w : World) (K : Fg) (mg : Str → Option Value) (base : Heap) (CX : CXT) (C : Addr) (m : Str) (ps : List Str) (k : Nat) (sp : Sp) : Prop where
  ex : ∃ (f : Addr) (fd : FuncData), FnOk P w K mg base CX k f fd ps sp ∧ PySem.W.findIn K (.ref C) m = some (some (.ref f)) ∧ PySem.W.isFn K (.ref f) = true ∧ PySem.W.keepIn K (.ref f) = true ∧ Binds K fd ps []
/-- a class that can be called -/
structure Cl (K : Fg) (mg : Str → Option Value) (x : Str) (C : Addr) : Prop where
  mg : mg x = some (.ref C)
  makes : PySem.W.makesIn K C = true
  kp : PySem.W.keepIn K (.ref C) = true
  cl : Cls K C
  cc : PySem.W.findIn K (.ref C) "__class__" = some (some (.builtin "object.__class__"))
  mro : PySem.W.mroIn K C (.type "object") = some true
section
variable {P : Program} {w : World} {K : Fg} {mg : Str → Option Value} {base : Heap}
theorem Has.ok {x : Str} {st : Stmt} {N ps : List Str} {k : Nat} {sp : Sp} (h : Has K mg x st ps) (S : FnScope N ps (defScope st)) (len : ∀ vs H Q E, sp vs H Q E → vs.length = ps.length)
    (hbody : ∀ (f : Addr) (cdv : Value) (A : Around) (outer : List Env) (s : Shared) (H : Hp) (vs : List V) (Q : VK) (E : XK), Room k (A.deeper (envOfC x (defScope st) s.heap.objs.size f cdv)) → sp vs H Q E →
      ∃ t, PSs (cxOf CX0 P w K mg base N x (defScope st) f cdv A outer s H E).nox (defBody st) t ∧ t { nx := fun _ H' => Q .non H', rt := Q } (start N vs) H) : Fd P w K mg base CX0 x ps (k + 1) sp := by
  obtain ⟨f, fd, F, hm, hb⟩ := h.ex
  exact ⟨f, fd, F.ok S len (hbody f), hm, F.kp, hb⟩
theorem Has.okX {x : Str} {st : Stmt} {N ps : List Str} {k : Nat} {sp : Sp} (h : Has K mg x st ps) (S : FnScope N ps (defScope st)) (len : ∀ vs H Q E, sp vs H Q E → vs.length = ps.length)
    (hbody : ∀ (f : Addr) (cdv : Value) (A : Around) (outer : List Env) (s : Shared) (H : Hp) (vs : List V) (Q : VK) (E : XK), Room k (A.deeper (envOfC x (defScope st) s.heap.objs.size f cdv)) → sp vs H Q E →
      ∃ t, PSs (cxOf (L2.CX P w) P w K mg base N x (defScope st) f cdv A outer s H E) (defBody st) t ∧ t { nx := fun _ H' => Q .non H', rt := Q } (start N vs) H) : Fd P w K mg base (L2.CX P w) x ps (k + 1) sp := by
  obtain ⟨f, fd, F, hm, hb⟩ := h.ex
  exact ⟨f, fd, F.okX S len (hbody f), hm, F.kp, hb⟩
theorem HasM.ok {C : Addr} {m qual : Str} {st : Stmt} {N ps : List Str} {k : Nat} {sp : Sp} (h : HasM K C m qual st ps) (S : FnScope N ps (defScope st)) (len : ∀ vs H Q E, sp vs H Q E → vs.length = ps.length)
    (hbody : ∀ (f : Addr) (cdv : Value) (A : Around) (outer : List Env) (s : Shared) (H : Hp) (vs : List V) (Q : VK) (E : XK), Room k (A.deeper (envOfC qual (defScope st) s.heap.objs.size f cdv)) → sp vs H Q E →
      ∃ t, PSs (cxOf CX0 P w K mg base N qual (defScope st) f cdv A outer s H E).nox (defBody st) t ∧ t { nx := fun _ H' => Q .non H', rt := Q } (start N vs) H) : Md P w K mg base CX0 C m ps (k + 1) sp := by
  obtain ⟨f, fd, F, h1, h2, hb⟩ := h.ex
  exact ⟨f, fd, F.ok S len (hbody f), h1, h2, F.kp, hb⟩
end
section
variable {X : Cx}
theorem pe_fd {x : Str} {ps : List Str} {k : Nat} {sp : Sp} {e : Expr} {es : List Expr} {p pos : Pos} {t : TA} (F : Fd X.prog X.w X.K X.mg X.base CX0 x ps k sp) (hr : Room k X.A) (hg : Gl X x) (ha : PA X (e :: es) t) (hdb : (x == ("__debug__" : Str)) = false := by decide)
    (he : starEach (e :: es) X.env = (false, eval e X.env) :: starEach es X.env := by rfl) (hpl : (backTo pos (starEach es X.env)).any (·.1) = false := by rfl) : PE X (.Call (.Name x p) (e :: es) [] pos) (tCall sp [] E0 t) := by
  obtain ⟨f, fd, G, hm, hk, hb⟩ := F.ex
  exact pe_call G hr hg hm hk hb .nil pass0 ha hdb he hpl
/-- a def that may raise, where it does not -/
theorem pe_fdL {x : Str} {ps : List Str} {k : Nat} {sp : Sp} {e : Expr} {es : List Expr} {p pos : Pos} {t : TA} (F : Fd X.prog X.w X.K X.mg X.base (L2.CX X.prog X.w) x ps k sp) (hr : Room k X.A) (hg : Gl X x) (ha : PA X (e :: es) t) (hdb : (x == ("__debug__" : Str)) = false := by decide)
    (he : starEach (e :: es) X.env = (false, eval e X.env) :: starEach es X.env := by rfl) (hpl : (backTo pos (starEach es X.env)).any (·.1) = false := by rfl) : PE X (.Call (.Name x p) (e :: es) [] pos) (tCall sp [] E0 t) := by
  obtain ⟨f, fd, G, hm, hk, hb⟩ := F.ex
  exact pe_call G hr hg hm hk hb .nil passL ha hdb he hpl
theorem pe_mk {x : Str} {C : Addr} {ps : List Str} {k : Nat} {sp : Sp} {e : Expr} {es : List Expr} {p pos : Pos} {t : TA} (c : Cl X.K X.mg x C) (F : Md X.prog X.w X.K X.mg X.base CX0 C "__init__" ps k sp) (hr : Room (k + 1) X.A) (hg : Gl X x) (ha : PA X (e :: es) t) (hdb : (x == ("__debug__" : Str)) = false := by decide)
    (he : starEach (e :: es) X.env = (false, eval e X.env) :: starEach es X.env := by rfl) (hpl : (backTo pos (starEach es X.env)).any (·.1) = false := by rfl) : PE X (.Call (.Name x p) (e :: es) [] pos) (tMake C sp [] E0 t) := by
  obtain ⟨f, fd, G, h1, h2, hk, hb⟩ := F.ex
  exact pe_make ⟨c.makes, h1, h2, c.kp⟩ G hr hg c.mg hb .nil pass0 ha hdb he hpl
theorem pe_md {pl : Sem Bool} {C : Addr} {m : Str} {o : Expr} {to : TE} {ps : List Str} {k : Nat} {sp : Sp} {e : Expr} {es : List Expr} {apos pos : Pos} {t : TA} (he : PE X o to) (c : Cls X.K C) (F : Md X.prog X.w X.K X.mg X.base CX0 C m ps k sp) (hr : Room k X.A) (ha : PA X (e :: es) t)
    (hst : starEach (e :: es) X.env = (false, eval e X.env) :: starEach es X.env := by rfl) (hpl : (backTo pos (starEach es X.env)).any (·.1) = false := by rfl)
    (ht : eval (.Call (.Attribute o m apos) (e :: es) [] pos) X.env = (do
      let ov ← eval o X.env
      standAt apos.atName
      let (f, first) ← holding [ov] (getMethod ov m pl)
      callWith pos f first (backTo pos (starEach (e :: es) X.env)) (backToKw pos (keywordEach [] X.env))) := by rfl) : PE X (.Call (.Attribute o m apos) (e :: es) [] pos) (tMeth C m sp [] E0 to t) := by
  obtain ⟨f, fd, G, h1, h2, hk, hb⟩ := F.ex
  exact pe_meth he c ⟨h1, h2, hk⟩ G hr hb .nil pass0 ha hst hpl ht
end

/-! ### numbers -/
def RN : Rel Nat := fun _ v n => v = .int (n : Int)
instance : Mn RN := ⟨fun _ h => h⟩
section
variable {α β : Type} {K : Fg} {σ : L2.St} {G L : Hp} {ta te : TE} {R : Rel α} {S : Rel β} {x : α} {y : β}
theorem Ev.ni {n : Nat} (h : Ev ta σ G L RN n) : Ev ta σ G L RI (n : Int) := h.imp fun _ _ e => e
theorem Ev.inn {i : Int} {n : Nat} (h : Ev ta σ G L RI i) (e : i = (n : Int)) : Ev ta σ G L RN n := h.imp fun _ v q => by subst e; exact q
theorem pnats {G : Hp} : ∀ {vs : List V} {ns : List Nat}, Paired (RN G) vs ns → Paired (RI G) vs (ns.map fun (n : Nat) => (n : Int))
  | _, _, .nil => .nil
  | _, _, .cons r t => .cons r (pnats t)
theorem RTn {G : Hp} {v : V} {ns : List Nat} (h : RT K RN G v ns) : RT K RI G v (ns.map fun (n : Nat) => (n : Int)) := let ⟨a, vs, e, q, p⟩ := h; ⟨a, vs, e, q, pnats p⟩
theorem RLn {G : Hp} {v : V} {ns : List Nat} (h : RL K RN G v ns) : RL K RI G v (ns.map fun (n : Nat) => (n : Int)) := let ⟨a, vs, e, q, p⟩ := h; ⟨a, vs, e, q, pnats p⟩
theorem Ev.rtn {ns : List Nat} (h : Ev ta σ G L (RT K RN) ns) : Ev ta σ G L (RT K RI) (ns.map fun (n : Nat) => (n : Int)) := h.imp fun _ _ q => RTn q
theorem Ev.rln {ns : List Nat} (h : Ev ta σ G L (RL K RN) ns) : Ev ta σ G L (RL K RI) (ns.map fun (n : Nat) => (n : Int)) := h.imp fun _ _ q => RLn q
/-- in, not in, among ints -/
theorem inV_ints (n : Int) : ∀ ns : List Int, inV (.int n) (ns.map V.int) = ns.contains n
  | [] => rfl
  | m :: ns => by
    have e : eqV (.int m) (.int n) = (n == m) := by
      show (m == n) = (n == m)
      by_cases h : m = n
      · subst h; rfl
      · rw [beq_eq_false_iff_ne.mpr h, beq_eq_false_iff_ne.mpr fun z => h z.symm]
    show (eqV (.int m) (.int n) || inV (.int n) (ns.map V.int)) = _
    rw [e, inV_ints n ns, List.contains_cons]
theorem flat_ints : ∀ ns : List Int, (ns.map V.int).all flatV = true
  | [] => rfl
  | n :: ns => by
    show (flatV (.int n) && (ns.map V.int).all flatV) = true
    rw [flat_ints ns]
    rfl
theorem ev_inL {neg : Bool} {n : Int} {ns : List Int} (ha : Ev ta σ G L RI n) (hb : Ev te σ G L (RL K RI) ns) : Ev (tOp (rIn K neg) ta te) σ G L RB (if neg then !ns.contains n else ns.contains n) :=
  ev_bin ha hb fun v u G1 F H _ _ A r s Q q => by
    obtain ⟨a, vs, rfl, h2, p⟩ := s
    cases r
    have e := pints p
    subst e
    refine ⟨a, _, rfl, .inl (sqlS A.g h2), rfl, flat_ints ns, q _ G1 H (Same.refl _) A ?_⟩
    show V.bl _ = V.bl _
    rw [inV_ints]
theorem ev_inT {neg : Bool} {n : Int} {ns : List Int} (ha : Ev ta σ G L RI n) (hb : Ev te σ G L (RT K RI) ns) : Ev (tOp (rIn K neg) ta te) σ G L RB (if neg then !ns.contains n else ns.contains n) :=
  ev_bin ha hb fun v u G1 F H _ _ A r s Q q => by
    obtain ⟨a, vs, rfl, h2, p⟩ := s
    cases r
    have e := pints p
    subst e
    refine ⟨a, _, rfl, .inr (sqtS A.g h2), rfl, flat_ints ns, q _ G1 H (Same.refl _) A ?_⟩
    show V.bl _ = V.bl _
    rw [inV_ints]
/-! ### instances -/
theorem ev_fld {f : Str} (h : Ev ta σ G L R x) (hf : ∀ G v, R G v x → ∃ a C dx fs w, v = .ref a ∧ G a = some (.ins C dx fs) ∧ Cls K C ∧ NoAttr K C f ∧ fs.lookup f = some w ∧ S G w y) : Ev (tFld K ta f) σ G L S y := fun G1 F H s c A Q q =>
  h G1 F H s c A _ fun v G2 H2 s2 A2 r2 => by
    obtain ⟨a, C, dx, fs, w, h1, h2, h3, h4, h5, h6⟩ := hf G2 v r2
    exact ⟨a, C, dx, fs, w, h1, A2.g _ _ h2, h3, h4, h5, q w G2 H2 s2 A2 h6⟩
/-- the promise of an __init__: a fresh instance of the class at C gets the attributes of fl -/
def SpI {ι : Type} (C : Addr) (pre : ι → Hp → List V → Prop) (fs : ι → Hp → List (Str × V) → Prop) : Sp := fun vs H Q _ =>
  ∃ (i : ι) (G F : Hp) (x dx : Addr) (ws : List V), vs = .ref x :: ws ∧ At G F H ∧ F x = some (.ins C dx []) ∧ pre i G ws ∧ ∀ G' H' fl, Same G G' → At G' (upd F x (.ins C dx fl)) H' → fs i G' fl → Q .non H'
end
section
variable {α ι : Type} {K : Fg} {σ : L2.St} {G L : Hp} {ta : TA} {R : Rel α} {y : α} {C : Addr} {pre : ι → Hp → List V → Prop} {fs : ι → Hp → List (Str × V) → Prop} {P : Hp → List V → Prop} {E : XK}
theorem ev_mk (i : ι) (ha : EvA ta σ G L P) (h1 : ∀ G' vs, Same G G' → P G' vs → pre i G' vs) (hm : ∀ G' G'' fl, Same G' G'' → fs i G' fl → fs i G'' fl)
    (h2 : ∀ G' x dx fl, Same G G' → fs i G' fl → G' x = some (.ins C dx fl) → R G' (.ref x) y) : Ev (tMake C (SpI C pre fs) [] E ta) σ G L R y := fun G1 F H s c A Q q =>
  ha G1 F H s c A _ fun vs G2 H2 s2 A2 p x dx nx ndx ne => by
    have nF := A2.nF nx
    have nFd := A2.nF ndx
    have A3 : At G2 (upd F dx (.own x)) (upd H2 dx (.own x)) := A2.newF ndx
    have nx3 : upd H2 dx (.own x) x = none := by rw [upd_ne (Ne.symm ne)]; exact nx
    have A4 : At G2 (upd (upd F dx (.own x)) x (.ins C dx [])) (upd (upd H2 dx (.own x)) x (.ins C dx [])) := A3.newF nx3
    refine ⟨i, G2, _, x, dx, vs, by rw [List.append_nil], A4, upd_same, h1 _ _ (s.trans s2) p, fun G' H' fl s3 A5 hf => ⟨rfl, ?_⟩⟩
    rw [upd_upd] at A5
    have nFx : upd F dx (.own x) x = none := by rw [upd_ne (Ne.symm ne)]; exact nF
    have gx : G' x = none := A5.d x _ upd_same
    have A6 := A5.freezeN nFx
    have A7 := A6.freezeN nFd
    have s4 : Same G' (upd G' x (.ins C dx fl)) := same_new gx
    have gd : upd G' x (.ins C dx fl) dx = none := A6.d dx _ upd_same
    have s5 : Same (upd G' x (.ins C dx fl)) (upd (upd G' x (.ins C dx fl)) dx (.own x)) := same_new gd
    refine q _ _ _ ((s2.trans s3).trans (s4.trans s5)) A7 (h2 _ x dx fl (((s.trans s2).trans s3).trans (s4.trans s5)) (hm _ _ _ (s4.trans s5) hf) (s5 _ _ upd_same))
end

/-! ### statements -/
section
variable {α β : Type} {K : Fg} {σ : L2.St} {G F H L : Hp} {ta tb te : TE} {tt : TT} {tu tw tb' : TS} {g : TG} {wi : TI} {D : Ends} {R : Rel α} {x : α}
theorem s_asg {i : Nat} (A : At G F H) (c : Same L F) (h : Ev te σ G L R x) (k : ∀ v G' H', Same G G' → At G' F H' → R G' v x → D.nx (σ.set i (some v)) H') : tAsg te (gName i) D σ H := h G F H (Same.refl _) c A _ fun v G2 H2 s A2 r => k v G2 H2 s A2 r
theorem s_asgF {i : Nat} {xs : List α} (A : At G F H) (c : Same L F) (h : EvF te σ G L R xs) (k : ∀ l vs G' H', Same G G' → F l = none → G' l = none → At G' (upd F l (.lst vs)) H' → Paired (R G') vs xs → D.nx (σ.set i (some (.ref l))) H') : tAsg te (gName i) D σ H :=
  h G F H (Same.refl _) c A _ fun l vs G2 H2 s n1 n2 A2 r => k l vs G2 H2 s n1 n2 A2 r
theorem s_asg2 {i j : Nat} {S : Rel β} {y : β} [Mn R] [Mn S] (A : At G F H) (c : Same L F) (h : Ev te σ G L (RP K R S) (x, y)) (k : ∀ v w G' H', Same G G' → At G' F H' → R G' v x → S G' w y → D.nx ((σ.set i (some v)).set j (some w)) H') :
    tAsg te (gTup K 2 (gCons (gName i) (gCons (gName j) gNil))) D σ H := h G F H (Same.refl _) c A _ fun v G2 H2 s A2 ⟨a, v1, v2, e, hq, r1, r2⟩ =>
  ⟨a, [v1, v2], e, sqtS A2.g hq, rfl, v1, [v2], rfl, v2, [], rfl, rfl, k v1 v2 G2 H2 s A2 r1 r2⟩
theorem s_asg3 {γ : Type} {i j l : Nat} {S : Rel β} {y : β} {T : Rel γ} {z : γ} [Mn R] [Mn S] [Mn T] (A : At G F H) (c : Same L F) (h : Ev te σ G L (R3 K R S T) (x, y, z)) (k : ∀ v w u G' H', Same G G' → At G' F H' → R G' v x → S G' w y → T G' u z → D.nx (((σ.set i (some v)).set j (some w)).set l (some u)) H') :
    tAsg te (gTup K 3 (gCons (gName i) (gCons (gName j) (gCons (gName l) gNil)))) D σ H := h G F H (Same.refl _) c A _ fun v G2 H2 s A2 ⟨a, v1, v2, v3, e, hq, r1, r2, r3⟩ =>
  ⟨a, [v1, v2, v3], e, sqtS A2.g hq, rfl, v1, [v2, v3], rfl, v2, [v3], rfl, v3, [], rfl, rfl, k v1 v2 v3 G2 H2 s A2 r1 r2 r3⟩
theorem s_ret (A : At G F H) (c : Same L F) (h : Ev te σ G L R x) (k : ∀ v G' H', Same G G' → At G' F H' → R G' v x → D.rt v H') : tRet te D σ H := h G F H (Same.refl _) c A _ fun v G2 H2 s A2 r => k v G2 H2 s A2 r
theorem s_retF {xs : List α} (A : At G F H) (c : Same L F) (h : EvF te σ G L R xs) (k : ∀ l vs G' H', Same G G' → F l = none → G' l = none → At G' (upd F l (.lst vs)) H' → Paired (R G') vs xs → D.rt (.ref l) H') : tRet te D σ H :=
  h G F H (Same.refl _) c A _ fun l vs G2 H2 s n1 n2 A2 r => k l vs G2 H2 s n1 n2 A2 r
theorem s_if {b : Bool} (A : At G F H) (c : Same L F) (h : EvT tt σ G L b) (h1 : b = true → ∀ G' H', Same G G' → At G' F H' → tu D σ H') (h2 : b = false → ∀ G' H', Same G G' → At G' F H' → tw D σ H') : tIfS tt tu tw D σ H :=
  h G F H (Same.refl _) c A _ fun G2 H2 s A2 => by
    cases b with
    | true => exact h1 rfl G2 H2 s A2
    | false => exact h2 rfl G2 H2 s A2
theorem s_drop (A : At G F H) (c : Same L F) (h : Ev te σ G L R x) (k : ∀ v G' H', Same G G' → At G' F H' → R G' v x → D.nx σ H') : tDrop te D σ H := h G F H (Same.refl _) c A _ fun v G2 H2 s A2 r => k v G2 H2 s A2 r
theorem s_aug {i : Nat} {a b : Int} (A : At G F H) (c : Same L F) (hx : σ[i]? = some (some (.int a))) (h : Ev te σ G L RI b) (k : ∀ G' H', Same G G' → At G' F H' → D.nx (σ.set i (some (.int (a + b)))) H') : tAug i te (ipI fun i j => i + j) D σ H :=
  ⟨.int a, hx, h G F H (Same.refl _) c A _ fun v G2 H2 s A2 r => ⟨a, b, rfl, r, k G2 H2 s A2⟩⟩
/-- xs.append(e), xs a list that is still changed -/
theorem s_app {l : Addr} {k : Nat} {vs : List V} (A : At G F H) (c : Same L F) (hk : σ[k]? = some (some (.ref l))) (hl : F l = some (.lst vs)) (h : Ev te σ G L R x) (hz : vs.length ≤ 1000) (kk : ∀ v G' H', Same G G' → At G' (upd F l (.lst (vs ++ [v]))) H' → R G' v x → D.nx σ H') :
    tDrop (tBM K "list" rAppend (tVar k) (tCons te tNil)) D σ H :=
  ⟨_, hk, .inl ⟨rfl, vs, .inl (.inl (A.f _ _ hl))⟩, h G F H (Same.refl _) c A _ fun v G2 H2 s A2 r => ⟨l, vs, v, rfl, rfl, A2.f _ _ hl, small1000 hz, kk v G2 _ s (A2.set hl) r⟩⟩
theorem s_appF {l : Addr} {k : Nat} {vs : List V} {xs : List α} (A : At G F H) (c : Same L F) (hk : σ[k]? = some (some (.ref l))) (hl : F l = some (.lst vs)) (h : EvF te σ G L R xs) (hz : vs.length ≤ 1000)
    (kk : ∀ m ws G' H', Same G G' → F m = none → G' m = none → At G' (upd (upd F m (.lst ws)) l (.lst (vs ++ [.ref m]))) H' → Paired (R G') ws xs → D.nx σ H') : tDrop (tBM K "list" rAppend (tVar k) (tCons te tNil)) D σ H :=
  ⟨_, hk, .inl ⟨rfl, vs, .inl (.inl (A.f _ _ hl))⟩, h G F H (Same.refl _) c A _ fun m ws G2 H2 s n1 n2 A2 r => by
    have nl : l ≠ m := fun z => by rw [z, n1] at hl; cases hl
    have hl2 : upd F m (.lst ws) l = some (.lst vs) := by rw [upd_ne nl]; exact hl
    exact ⟨l, vs, .ref m, rfl, rfl, A2.f _ _ hl2, small1000 hz, kk m ws G2 _ s n1 n2 (A2.set hl2) r⟩⟩
theorem ixN_nat {n j : Nat} (hj : j < n) : ixN n (j : Int) = some j := by
  unfold ixN
  rw [if_pos (by omega), if_pos (by omega)]
  simp
/-- xs[i] = e, xs a list that is still changed -/
theorem s_seti {l : Addr} {k j : Nat} {i : Int} {vs : List V} (A : At G F H) (c : Same L F) (hk : σ[k]? = some (some (.ref l))) (hl : F l = some (.lst vs)) (h : Ev te σ G L R x) (hi : Ev tb σ G L RI i) (e : i = (j : Int)) (hj : j < vs.length)
    (kk : ∀ v G' H', Same G G' → At G' (upd F l (.lst (vs.set j v))) H' → R G' v x → D.nx σ H') [Mn R] : tAsg te (gSub (tVar k) tb rSetL) D σ H :=
  h G F H (Same.refl _) c A _ fun v G2 H2 s A2 r => ⟨_, hk, hi G2 F H2 s c A2 _ fun u G3 H3 s3 A3 r3 => by
    cases r3
    refine ⟨l, vs, i, j, rfl, rfl, A3.f _ _ hl, by rw [e]; exact ixN_nat hj, kk v G3 _ (s.trans s3) (A3.set hl) (mn s3 r)⟩⟩
/-- o.f = e, o the instance that is being made -/
theorem s_fld {f : Str} {k : Nat} {x' C dx : Addr} {fs : List (Str × V)} (A : At G F H) (c : Same L F) (hk : σ[k]? = some (some (.ref x'))) (hx : F x' = some (.ins C dx fs)) (h : Ev te σ G L R x) (hc : Cls K C) (hn : NoAttr K C f) (hz : fs.length < 1000)
    (kk : ∀ v G' H', Same G G' → At G' (upd F x' (.ins C dx (putF f v fs))) H' → R G' v x → D.nx σ H') : sFld K (tVar k) te f D σ H :=
  h G F H (Same.refl _) c A _ fun v G2 H2 s A2 r => ⟨_, hk, x', C, dx, fs, rfl, A2.f _ _ hx, hc, hn, hz, kk v G2 _ s (A2.set hx) r⟩
/-- a for: Pv by the turn, the slots, the two parts of the heap -/
theorem s_for {n : Nat} {Y : Nat → Hp → V → Prop} (A : At G F H) (c : Same L F) (hi : EvI wi σ G L n Y) (Pv : Nat → L2.St → Hp → Hp → Prop)
    (h0 : ∀ G', Same G G' → Pv 0 σ G' F) (hL : ∀ i σ' G' F', Pv i σ' G' F' → Same L F')
    (hs : ∀ G0, Same G G0 → ∀ i v σ' G' F' H', i < n → Pv i σ' G' F' → ∀ G'', Same G' G'' → Same G0 G'' → At G'' F' H' → Y i G'' v →
      g v σ' H' fun σ2 H2 => tb' { D with nx := fun σ3 H3 => ∃ G3 F3, Same G0 G3 ∧ At G3 F3 H3 ∧ Pv (i + 1) σ3 G3 F3, ct := fun σ3 H3 => ∃ G3 F3, Same G0 G3 ∧ At G3 F3 H3 ∧ Pv (i + 1) σ3 G3 F3, bk := D.nx } σ2 H2)
    (hd : ∀ σ' G' F' H', Same G G' → At G' F' H' → Pv n σ' G' F' → D.nx σ' H') : tFor wi g tb' D σ H := by
  refine hi G F H (Same.refl _) c A _ fun J G2 H2 s2 A2 ok => ?_
  refine ⟨fun i m σ' H' => m = n - i ∧ i ≤ n ∧ ∃ G' F', Same G2 G' ∧ At G' F' H' ∧ Pv i σ' G' F', ⟨n, by simp, Nat.zero_le _, G2, F, Same.refl _, A2, h0 _ s2⟩, ?_⟩
  rintro i m σ' H' ⟨rfl, hi', G', F', s3, A3, p⟩
  have cL : Same L H' := fun a o e => A3.f a o (hL i σ' G' F' p a o e)
  by_cases hlt : i < n
  · refine .inr ⟨ok.go i H' hlt (s3.trans A3.g) cL, fun σ3 H3 => ∃ G3 F3, Same G2 G3 ∧ At G3 F3 H3 ∧ Pv (i + 1) σ3 G3 F3, fun σ3 H3 p' => ⟨n - (i + 1), by omega, rfl, hlt, p'⟩, fun x H3 y => ?_⟩
    obtain ⟨G4, s4, A4, y4⟩ := ok.yld i H' x H3 G' F' hlt s3 (hL i σ' G' F' p) A3 y
    exact hs G2 s2 i x σ' G' F' H3 hlt p G4 s4 (s3.trans s4) A4 y4
  · have e : i = n := by omega
    subst e
    exact .inl ⟨ok.stop H' (s3.trans A3.g) cL, hd σ' G' F' H' (s2.trans s3) A3 p⟩
end
end MW

set_option Elab.async false
set_option linter.all false
set_option maxRecDepth 100000
set_option maxHeartbeats 4000000
/-! The text by places, what its top has left, its instances. -/
namespace MW
open PySem PySem.Spec PyProof.Rows L2

def top (i : Nat) : Stmt := PySem.Challenge.pw_mapwebs_k28_whole_turns_by_own_kernels.main.body.getD i (.Pass ⟨0, 0, 0, 0⟩)
structure Adr where
  Tb : Addr
  RTb : Addr
  Wb : Addr
  RWb : Addr
  Pc : Addr
  RPc : Addr
  NT : Addr
  WE : Addr
  PR : Addr
structure Txt (K : Fg) (mg : Str → Option Value) (a : Adr) : Prop where
  blen : mg "len" = none
  bisinstance : mg "isinstance" = none
  ball : mg "all" = none
  bany : mg "any" = none
  bsum : mg "sum" = none
  babs : mg "abs" = none
  btuple : mg "tuple" = none
  blist : mg "list" = none
  bint : mg "int" = none
  bbool : mg "bool" = none
  brange : mg "range" = none
  benumerate : mg "enumerate" = none
  bzip : mg "zip" = none
  bValueError : mg "ValueError" = none
  cTb : Cl K mg "Table" a.Tb
  cRTb : Cl K mg "RawTable" a.RTb
  cWb : Cl K mg "Web" a.Wb
  cRWb : Cl K mg "RawWeb" a.RWb
  cPc : Cl K mg "Picture" a.Pc
  cRPc : Cl K mg "RawPicture" a.RPc
  nTb : NoAttr K a.Tb "prime" ∧ NoAttr K a.Tb "wide" ∧ NoAttr K a.Tb "rows" ∧ NoAttr K a.Tb "high"
  nRTb : NoAttr K a.RTb "prime" ∧ NoAttr K a.RTb "wide" ∧ NoAttr K a.RTb "rows" ∧ NoAttr K a.RTb "high"
  nWb : NoAttr K a.Wb "many" ∧ NoAttr K a.Wb "arrows"
  nRWb : NoAttr K a.RWb "many" ∧ NoAttr K a.RWb "arrows"
  nPc : NoAttr K a.Pc "web" ∧ NoAttr K a.Pc "prime" ∧ NoAttr K a.Pc "sizes" ∧ NoAttr K a.Pc "tables"
  nRPc : NoAttr K a.RPc "web" ∧ NoAttr K a.RPc "prime" ∧ NoAttr K a.RPc "sizes" ∧ NoAttr K a.RPc "tables"
  kRTb : PySem.W.kitOne K (.ref a.RTb) (.ref a.Tb) = some true
  kRWb : PySem.W.kitOne K (.ref a.RWb) (.ref a.Wb) = some true
  kRPc : PySem.W.kitOne K (.ref a.RPc) (.ref a.Pc) = some true
  kTb : PySem.W.kitOne K (.ref a.Tb) (.ref a.Tb) = some true
  kWb : PySem.W.kitOne K (.ref a.Wb) (.ref a.Wb) = some true
  kPc : PySem.W.kitOne K (.ref a.Pc) (.ref a.Pc) = some true
  nfW : PySem.W.notFirst K a.RWb (.ref a.Wb) = true
  nfR : PySem.W.notFirst K a.RWb (.ref a.RWb) = true
  cNT : mg "NoTurn" = some (.ref a.NT)
  kNT : PySem.W.keepIn K (.ref a.NT) = true
  xNT : PySem.W.excIn K a.NT [.type "ValueError", .type "Exception", .type "BaseException", .type "object"] "ValueError.__new__" = true
  bNT : PySem.W.subIn K (.ref a.NT) (.type "BaseException") = some true
  tNT : PySem.W.typeIn K (.ref a.NT) = some (.type "type")
  cWE : mg "WebError" = some (.ref a.WE)
  eNT : PySem.W.exmOne K (.ref a.NT) (.ref a.WE) = some true
  iNT : PySem.W.kitOne K (.ref a.NT) (.ref a.NT) = some true
  vNT : PySem.W.kitOne K (.ref a.NT) (.type "ValueError") = some true
  ecNT : ExcC K a.NT
  cget : PySem.W.specialIn K (.builtin "object.__class__") "__get__" = some (some (.builtin "getset_descriptor.__get__"))
  ctk : PySem.W.takesIn K (.builtin "object.__class__") = some true
  MOST : ∃ t, mg "MOST" = some (.int 12 t)
  MOST_PLACES : ∃ t, mg "MOST_PLACES" = some (.int 8 t)
  MOST_ARROWS : ∃ t, mg "MOST_ARROWS" = some (.int 12 t)
  MOST_SIZE : ∃ t, mg "MOST_SIZE" = some (.int 6 t)
  mgPRIMES : mg "PRIMES" = some (.ref a.PR)
  primes : ∀ H, SqT K H a.PR (([2, 3, 5, 7, 11, 13] : List Int).map V.int)

/-! ### tables, webs, pictures -/
structure TabD where
  p : Int
  wide : Nat
  rows : List (List Int)
def RTab (K : Fg) (a : Adr) : Rel TabD := fun G v d => ∃ x C dx fs r, v = .ref x ∧ (C = a.Tb ∨ C = a.RTb) ∧ G x = some (.ins C dx fs) ∧ fs.lookup ("prime" : Str) = some (.int d.p) ∧ fs.lookup ("wide" : Str) = some (.int d.wide) ∧ fs.lookup ("high" : Str) = some (.int d.rows.length) ∧
  fs.lookup ("rows" : Str) = some r ∧ RT K (RT K RI) G r d.rows
instance {K : Fg} {a : Adr} : Mn (RTab K a) := ⟨fun e ⟨x, C, dx, fs, r, h1, h2, h3, h4, h5, h6, h7, h8⟩ => ⟨x, C, dx, fs, r, h1, h2, e _ _ h3, h4, h5, h6, h7, mn e h8⟩⟩
structure WebD where
  many : Nat
  arrows : List (Nat × Nat)
def RWeb (K : Fg) (a : Adr) : Rel WebD := fun G v d => ∃ x C dx fs r, v = .ref x ∧ (C = a.Wb ∨ C = a.RWb) ∧ G x = some (.ins C dx fs) ∧ fs.lookup ("many" : Str) = some (.int d.many) ∧ fs.lookup ("arrows" : Str) = some r ∧ RT K (RP K RN RN) G r d.arrows
instance {K : Fg} {a : Adr} : Mn (RWeb K a) := ⟨fun e ⟨x, C, dx, fs, r, h1, h2, h3, h4, h5, h6⟩ => ⟨x, C, dx, fs, r, h1, h2, e _ _ h3, h4, h5, mn e h6⟩⟩
structure PicD where
  web : WebD
  p : Int
  sizes : List Nat
  tabs : List TabD
def RPic (K : Fg) (a : Adr) : Rel PicD := fun G v d => ∃ x C dx fs w s t, v = .ref x ∧ (C = a.Pc ∨ C = a.RPc) ∧ G x = some (.ins C dx fs) ∧ fs.lookup ("web" : Str) = some w ∧ fs.lookup ("prime" : Str) = some (.int d.p) ∧ fs.lookup ("sizes" : Str) = some s ∧ fs.lookup ("tables" : Str) = some t ∧
  RWeb K a G w d.web ∧ RT K RN G s d.sizes ∧ RT K (RTab K a) G t d.tabs
instance {K : Fg} {a : Adr} : Mn (RPic K a) := ⟨fun e ⟨x, C, dx, fs, w, s, t, h1, h2, h3, h4, h5, h6, h7, h8, h9, h10⟩ => ⟨x, C, dx, fs, w, s, t, h1, h2, e _ _ h3, h4, h5, h6, h7, mn e h8, mn e h9, mn e h10⟩⟩
section
variable {K : Fg} {mg : Str → Option Value} {a : Adr} (T : Txt K mg a) {σ : L2.St} {G L : Hp} {ta : TE}
include T
theorem ev_tPrime {d : TabD} (h : Ev ta σ G L (RTab K a) d) : Ev (tFld K ta "prime") σ G L RI d.p := ev_fld h fun G v ⟨x, C, dx, fs, r, h1, h2, h3, h4, h5, h6, h7, h8⟩ => by
  rcases h2 with e | e
  · subst e; exact ⟨x, _, dx, fs, _, h1, h3, T.cTb.cl, T.nTb.1, h4, rfl⟩
  · subst e; exact ⟨x, _, dx, fs, _, h1, h3, T.cRTb.cl, T.nRTb.1, h4, rfl⟩
theorem ev_tWide {d : TabD} (h : Ev ta σ G L (RTab K a) d) : Ev (tFld K ta "wide") σ G L RN d.wide := ev_fld h fun G v ⟨x, C, dx, fs, r, h1, h2, h3, h4, h5, h6, h7, h8⟩ => by
  rcases h2 with e | e
  · subst e; exact ⟨x, _, dx, fs, _, h1, h3, T.cTb.cl, T.nTb.2.1, h5, rfl⟩
  · subst e; exact ⟨x, _, dx, fs, _, h1, h3, T.cRTb.cl, T.nRTb.2.1, h5, rfl⟩
theorem ev_tHigh {d : TabD} (h : Ev ta σ G L (RTab K a) d) : Ev (tFld K ta "high") σ G L RN d.rows.length := ev_fld h fun G v ⟨x, C, dx, fs, r, h1, h2, h3, h4, h5, h6, h7, h8⟩ => by
  rcases h2 with e | e
  · subst e; exact ⟨x, _, dx, fs, _, h1, h3, T.cTb.cl, T.nTb.2.2.2, h6, rfl⟩
  · subst e; exact ⟨x, _, dx, fs, _, h1, h3, T.cRTb.cl, T.nRTb.2.2.2, h6, rfl⟩
theorem ev_tRows {d : TabD} (h : Ev ta σ G L (RTab K a) d) : Ev (tFld K ta "rows") σ G L (RT K (RT K RI)) d.rows := ev_fld h fun G v ⟨x, C, dx, fs, r, h1, h2, h3, h4, h5, h6, h7, h8⟩ => by
  rcases h2 with e | e
  · subst e; exact ⟨x, _, dx, fs, _, h1, h3, T.cTb.cl, T.nTb.2.2.1, h7, h8⟩
  · subst e; exact ⟨x, _, dx, fs, _, h1, h3, T.cRTb.cl, T.nRTb.2.2.1, h7, h8⟩
theorem ev_wMany {d : WebD} (h : Ev ta σ G L (RWeb K a) d) : Ev (tFld K ta "many") σ G L RN d.many := ev_fld h fun G v ⟨x, C, dx, fs, r, h1, h2, h3, h4, h5, h6⟩ => by
  rcases h2 with e | e
  · subst e; exact ⟨x, _, dx, fs, _, h1, h3, T.cWb.cl, T.nWb.1, h4, rfl⟩
  · subst e; exact ⟨x, _, dx, fs, _, h1, h3, T.cRWb.cl, T.nRWb.1, h4, rfl⟩
theorem ev_wArr {d : WebD} (h : Ev ta σ G L (RWeb K a) d) : Ev (tFld K ta "arrows") σ G L (RT K (RP K RN RN)) d.arrows := ev_fld h fun G v ⟨x, C, dx, fs, r, h1, h2, h3, h4, h5, h6⟩ => by
  rcases h2 with e | e
  · subst e; exact ⟨x, _, dx, fs, _, h1, h3, T.cWb.cl, T.nWb.2, h5, h6⟩
  · subst e; exact ⟨x, _, dx, fs, _, h1, h3, T.cRWb.cl, T.nRWb.2, h5, h6⟩
theorem ev_pWeb {d : PicD} (h : Ev ta σ G L (RPic K a) d) : Ev (tFld K ta "web") σ G L (RWeb K a) d.web := ev_fld h fun G v ⟨x, C, dx, fs, w, s, t, h1, h2, h3, h4, h5, h6, h7, h8, h9, h10⟩ => by
  rcases h2 with e | e
  · subst e; exact ⟨x, _, dx, fs, _, h1, h3, T.cPc.cl, T.nPc.1, h4, h8⟩
  · subst e; exact ⟨x, _, dx, fs, _, h1, h3, T.cRPc.cl, T.nRPc.1, h4, h8⟩
theorem ev_pPrime {d : PicD} (h : Ev ta σ G L (RPic K a) d) : Ev (tFld K ta "prime") σ G L RI d.p := ev_fld h fun G v ⟨x, C, dx, fs, w, s, t, h1, h2, h3, h4, h5, h6, h7, h8, h9, h10⟩ => by
  rcases h2 with e | e
  · subst e; exact ⟨x, _, dx, fs, _, h1, h3, T.cPc.cl, T.nPc.2.1, h5, rfl⟩
  · subst e; exact ⟨x, _, dx, fs, _, h1, h3, T.cRPc.cl, T.nRPc.2.1, h5, rfl⟩
theorem ev_pSizes {d : PicD} (h : Ev ta σ G L (RPic K a) d) : Ev (tFld K ta "sizes") σ G L (RT K RN) d.sizes := ev_fld h fun G v ⟨x, C, dx, fs, w, s, t, h1, h2, h3, h4, h5, h6, h7, h8, h9, h10⟩ => by
  rcases h2 with e | e
  · subst e; exact ⟨x, _, dx, fs, _, h1, h3, T.cPc.cl, T.nPc.2.2.1, h6, h9⟩
  · subst e; exact ⟨x, _, dx, fs, _, h1, h3, T.cRPc.cl, T.nRPc.2.2.1, h6, h9⟩
theorem ev_pTabs {d : PicD} (h : Ev ta σ G L (RPic K a) d) : Ev (tFld K ta "tables") σ G L (RT K (RTab K a)) d.tabs := ev_fld h fun G v ⟨x, C, dx, fs, w, s, t, h1, h2, h3, h4, h5, h6, h7, h8, h9, h10⟩ => by
  rcases h2 with e | e
  · subst e; exact ⟨x, _, dx, fs, _, h1, h3, T.cPc.cl, T.nPc.2.2.2, h7, h10⟩
  · subst e; exact ⟨x, _, dx, fs, _, h1, h3, T.cRPc.cl, T.nRPc.2.2.2, h7, h10⟩
end
theorem filterMap_some {α : Type} (f : Nat → α) (l : List Nat) : l.filterMap (fun i => some (f i)) = l.map f := by
  induction l with
  | nil => rfl
  | cons a l ih => simp [List.filterMap_cons, ih]
end MW

set_option Elab.async false
set_option linter.all false
set_option maxRecDepth 100000
set_option maxHeartbeats 4000000
/-! Walks: the checks. -/
namespace MW
open PySem PySem.Spec PyProof.Rows L2

/-! ### what may be handed in as a place: an int, or another thing -/
theorem tyxS {K : Fg} {G G' : Hp} {v : V} {t : Value} (e : Same G G') (h : TyX K G v t) : TyX K G' v t := by
  cases h with
  | base b =>
    refine .base ?_
    cases b with
    | non => exact .non
    | bl x => exact .bl x
    | int i => exact .int i
    | str x => exact .str x
    | flt x => exact .flt x
    | lst q => exact .lst (e _ _ q)
    | frz q => exact .frz (e _ _ q)
    | tup q => exact .tup (e _ _ q)
    | dK q => exact .dK (e _ _ q)
    | dT q => exact .dT (e _ _ q)
    | ins q cl ha hn htk hm => exact .ins (e _ _ q) cl ha hn htk hm
  | byt b => exact .byt b
  | set q => exact .set (e _ _ q)
  | kList q c => exact .kList q c
  | kTuple q c => exact .kTuple q c
  | kDict q c => exact .kDict q c
  | fTuple q => exact .fTuple (e _ _ q)
  | fDict q => exact .fDict (e _ _ q)
theorem tyx_tup {K : Fg} {G : Hp} {x : Addr} {vs : List V} (h : SqT K G x vs) : TyX K G (.ref x) (.type "tuple") := by
  rcases h with (h | ⟨o, h⟩) | ⟨o, its, n, h1, h2, _⟩
  · exact .base (.tup h)
  · exact .fTuple h
  · exact .kTuple h1 h2
def RO (K : Fg) : Rel (Option Int) := fun G v x => match x with
  | some n => v = .int n
  | none => ∃ (t : String) (c d : Bool), TyX K G v (.type t) ∧ kitB t "int" = some c ∧ kitB t "bool" = some d ∧ (c && !d) = false
instance {K : Fg} : Mn (RO K) := ⟨fun {G G' v x} e h => by
  cases x with
  | some n => exact h
  | none =>
    obtain ⟨t, c, d, h1, h2⟩ := h
    exact ⟨t, c, d, tyxS e h1, h2⟩⟩
def inR (x : Option Int) (lo hi : Int) : Bool := match x with
  | some n => decide (lo ≤ n) && decide (n ≤ hi)
  | none => false
theorem inR_nat {n : Nat} {lo hi : Int} (h : lo ≤ n ∧ (n : Int) ≤ hi) : inR (some (n : Int)) lo hi = true := by
  unfold inR
  simp [h.1, h.2]
section
variable {α : Type} {K : Fg} {σ : L2.St} {G L : Hp} {ta tb tc : TE} {R : Rel α} {x : α}
theorem Ev.ro {n : Int} (h : Ev ta σ G L RI n) : Ev ta σ G L (RO K) (some n) := h.imp fun _ _ e => e
theorem ev_isi {c : V} {u : Value} {b : Bool} (h : Ev ta σ G L R x) (hc : ClsV c u) (ht : ∀ G v, R G v x → ∃ t, TyX K G v t ∧ PySem.W.kitOne K t u = some b) : Ev (tCB (rIsi K) (tCons ta (tCons (tC c) tNil))) σ G L RB b := fun G1 F H s c' A Q q =>
  h G1 F H s c' A _ fun v G2 H2 s2 A2 r2 => by
    obtain ⟨t, h1, h2⟩ := ht G2 v r2
    exact ⟨v, c, t, u, b, rfl, hc, tyxS A2.g h1, h2, q _ G2 H2 s2 A2 rfl⟩
theorem ev_isTup {β : Type} {S : Rel β} {xs : List β} (h : Ev ta σ G L (RT K S) xs) : Ev (tCB (rIsi K) (tCons ta (tCons (tC (.ty "tuple")) tNil))) σ G L RB true :=
  ev_isi h (.ty "tuple") fun G v ⟨x, vs, e, hq, _⟩ => ⟨.type "tuple", by rw [e]; exact tyx_tup hq, kit_ty (by decide +kernel)⟩
theorem ev_isTupP {β γ : Type} {S : Rel β} {S' : Rel γ} {p : β × γ} (h : Ev ta σ G L (RP K S S') p) : Ev (tCB (rIsi K) (tCons ta (tCons (tC (.ty "tuple")) tNil))) σ G L RB true :=
  ev_isi h (.ty "tuple") fun G v ⟨x, v1, v2, e, hq, _⟩ => ⟨.type "tuple", by rw [e]; exact tyx_tup hq, kit_ty (by decide +kernel)⟩
def RTy (K : Fg) (t : String) : Rel Unit := fun G v _ => TyX K G v (.type t)
instance {K : Fg} {t : String} : Mn (RTy K t) := ⟨fun e h => tyxS e h⟩
theorem ev_isTy {t n : String} {b : Bool} (h : Ev ta σ G L (RTy K t) ()) (e : kitB t n = some b) : Ev (tCB (rIsi K) (tCons ta (tCons (tC (.ty n)) tNil))) σ G L RB b :=
  ev_isi h (.ty n) fun G v r => ⟨_, r, kit_ty e⟩
theorem Ev.tyI {n : Int} (h : Ev ta σ G L RI n) : Ev ta σ G L (RTy K "int") () := h.imp fun _ v e => by
  show TyX K _ v _
  rw [show v = V.int n from e]
  exact .base (.int n)
theorem ev_chainLe {i j k : Int} (ha : Ev ta σ G L RI i) (hb : Ev tb σ G L RI j) (hc : Ev tc σ G L RI k) :
    Ev (tChain (rI0 fun i j => .bl (decide (i ≤ j))) (rI0 fun i j => .bl (decide (i ≤ j))) ta tb tc) σ G L RB (decide (i ≤ j) && decide (j ≤ k)) := fun G1 F H s c A Q q =>
  ha G1 F H s c A _ fun v G2 H2 s2 A2 r2 => hb G2 F H2 (s.trans s2) c A2 _ fun u G3 H3 s3 A3 r3 => by
    cases r2
    cases r3
    refine ⟨i, j, rfl, rfl, decide (i ≤ j), rfl, ?_⟩
    by_cases h : i ≤ j
    · simp only [decide_eq_true h, if_true, Bool.true_and] at q ⊢
      refine hc G3 F H3 ((s.trans s2).trans s3) c A3 _ fun z G4 H4 s4 A4 r4 => ?_
      cases r4
      exact ⟨j, k, rfl, rfl, q _ G4 H4 ((s2.trans s3).trans s4) A4 rfl⟩
    · simp only [decide_eq_false h, Bool.false_eq_true, if_false, Bool.false_and] at q ⊢
      exact q _ G3 H3 (s2.trans s3) A3 rfl
end
theorem pe_gint {X : Cx} {x : Str} {n : Int} {pos : Pos} (hg : Gl X x) (hm : ∃ t, X.mg x = some (.int n t)) (hd : (x == ("__debug__" : Str)) = false := by decide) : PE X (.Name x pos) (tC (.int n)) := by
  obtain ⟨t, e⟩ := hm
  exact pe_glob hg e ⟨t, rfl⟩ hd

section
variable {P : Program} {w : World} {K : Fg} {mg : Str → Option Value} {base : Heap} {a : Adr}

/-! is_integer -/
abbrev sIsInteger : Stmt := top 8
abbrev nIsInteger : List Str := ["thing"]
abbrev pIsInteger : List Str := ["thing"]
theorem scIsInteger : FnScope nIsInteger pIsInteger (defScope sIsInteger) := ⟨rfl, rfl, rfl, by decide +kernel, rfl, by decide +kernel, by decide +kernel⟩
def spIsInteger (K : Fg) : Sp := SpP (ι := Option Int) (fun i G vs => ∃ v1, vs = [v1] ∧ RO K G v1 i) (fun i G v => RB G v i.isSome)
theorem ok_IsInteger (T : Txt K mg a) (h : Has K mg "is_integer" sIsInteger pIsInteger) : Fd P w K mg base CX0 "is_integer" pIsInteger 1 (spIsInteger K) := by
  refine h.ok scIsInteger (fun vs H Q E h => ?_) (fun f cdv A outer s H vs Q E hr h => ?_)
  · obtain ⟨i, G, F, _, ⟨v1, rfl, _⟩, _⟩ := h
    rfl
  · obtain ⟨i, G, F, hA, ⟨v1, rfl, r1⟩, k⟩ := h
    have nd := scIsInteger.nd
    refine ⟨_, (pss_one (ps_ret (pe_and (pe_callB call_isi (by rfl) T.bisinstance (by decide +kernel) (pa_cons (pv 0) (pa_cons (pe_bltn (v := .ty "int") (by rfl) T.bint (by decide +kernel) rfl) pa_nil))) (pe_one (pe_not (pe_callB call_isi (by rfl) T.bisinstance (by decide +kernel) (pa_cons (pv 0) (pa_cons (pe_bltn (v := .ty "bool") (by rfl) T.bbool (by decide +kernel) rfl) pa_nil)))))))), ?_⟩
    cases i with
    | some n =>
      have e1 : Ev (tVar 0) (start nIsInteger [v1]) G no (RTy K "int") () := (ev_var (R := RI) (x := n) rfl r1).tyI
      exact s_ret (L := no) hA no_sub (R := RB) (x := true) (ev_andV (a := true) (b := true) (ev_isTy e1 (by decide +kernel)) fun _ => ev_notV (b := false) (ev_isTy e1 (by decide +kernel))) fun v G' H' s A r => k v G' H' s A r
    | none =>
      obtain ⟨t, c, d, h1, h2, h3, h4⟩ := id r1
      have e1 : Ev (tVar 0) (start nIsInteger [v1]) G no (RTy K t) () := ev_var rfl h1
      exact s_ret (L := no) hA no_sub (R := RB) (x := false) ((ev_andV (a := c) (b := !d) (ev_isTy e1 h2) fun _ => ev_notV (b := d) (ev_isTy e1 h3)).is h4) fun v G' H' s A r => k v G' H' s A r

/-! is_within -/
abbrev sIsWithin : Stmt := top 9
abbrev nIsWithin : List Str := ["thing", "least", "most"]
abbrev pIsWithin : List Str := ["thing", "least", "most"]
theorem scIsWithin : FnScope nIsWithin pIsWithin (defScope sIsWithin) := ⟨rfl, rfl, rfl, by decide +kernel, rfl, by decide +kernel, by decide +kernel⟩
def spIsWithin (K : Fg) : Sp := SpP (ι := Option Int × Int × Int) (fun i G vs => ∃ v1 v2 v3, vs = [v1, v2, v3] ∧ RO K G v1 i.1 ∧ RI G v2 i.2.1 ∧ RI G v3 i.2.2) (fun i G v => RB G v (inR i.1 i.2.1 i.2.2))
theorem ok_IsWithin (T : Txt K mg a) (h : Has K mg "is_within" sIsWithin pIsWithin) (G_is_integer : Fd P w K mg base CX0 "is_integer" pIsInteger 1 (spIsInteger K)) : Fd P w K mg base CX0 "is_within" pIsWithin 2 (spIsWithin K) := by
  refine h.ok scIsWithin (fun vs H Q E h => ?_) (fun f cdv A outer s H vs Q E hr h => ?_)
  · obtain ⟨i, G, F, _, ⟨v1, v2, v3, rfl, _⟩, _⟩ := h
    rfl
  · obtain ⟨⟨x, lo, hi⟩, G, F, hA, ⟨v1, v2, v3, rfl, r1, r2, r3⟩, k⟩ := h
    have nd := scIsWithin.nd
    dsimp only at r1 r2 r3
    refine ⟨_, (pss_one (ps_ret (pe_and (pe_fd G_is_integer (hr.mono (by decide)) (by rfl) (pa_cons (pv 0) pa_nil)) (pe_one (pe_chain op_le op_le (pv 1) (pv 0) (pv 2)))))), ?_⟩
    refine s_ret (L := no) hA no_sub (R := RB) (x := inR x lo hi) (Ev.is (ev_andV (a := x.isSome) (b := inR x lo hi) (ev_call x (ea_cons (R := RO K) (x := x) (ev_var rfl r1) ea_nil) (fun G' vs s ⟨v, r, e, q, e2⟩ => ⟨v, by rw [e, e2], q⟩) fun _ _ _ q => q) fun hx => ?_) ?_) fun v G' H' s A r => k v G' H' s A r
    · cases x with
      | none => cases hx
      | some n => exact ev_chainLe (ev_var rfl r2) (ev_var (R := RI) rfl r1) (ev_var rfl r3)
    · cases x <;> rfl

/-! is_number -/
abbrev sIsNumber : Stmt := top 10
abbrev nIsNumber : List Str := ["thing", "most"]
abbrev pIsNumber : List Str := ["thing", "most"]
theorem scIsNumber : FnScope nIsNumber pIsNumber (defScope sIsNumber) := ⟨rfl, rfl, rfl, by decide +kernel, rfl, by decide +kernel, by decide +kernel⟩
def spIsNumber (K : Fg) : Sp := SpP (ι := Option Int × Int) (fun i G vs => ∃ v1 v2, vs = [v1, v2] ∧ RO K G v1 i.1 ∧ RI G v2 i.2) (fun i G v => RB G v (inR i.1 0 i.2))
theorem ok_IsNumber (T : Txt K mg a) (h : Has K mg "is_number" sIsNumber pIsNumber) (G_is_within : Fd P w K mg base CX0 "is_within" pIsWithin 2 (spIsWithin K)) : Fd P w K mg base CX0 "is_number" pIsNumber 3 (spIsNumber K) := by
  refine h.ok scIsNumber (fun vs H Q E h => ?_) (fun f cdv A outer s H vs Q E hr h => ?_)
  · obtain ⟨i, G, F, _, ⟨v1, v2, rfl, _⟩, _⟩ := h
    rfl
  · obtain ⟨⟨x, hi⟩, G, F, hA, ⟨v1, v2, rfl, r1, r2⟩, k⟩ := h
    have nd := scIsNumber.nd
    dsimp only at r1 r2
    refine ⟨_, (pss_one (ps_ret (pe_fd G_is_within (hr.mono (by decide)) (by rfl) (pa_cons (pv 0) (pa_cons pe_int (pa_cons (pv 1) pa_nil)))))), ?_⟩
    exact s_ret (L := no) hA no_sub (R := RB) (x := inR x 0 hi) (ev_call (x, 0, hi) (ea_cons (R := RO K) (x := x) (ev_var rfl r1) (ea_cons ev_i (ea_cons (R := RI) (x := hi) (ev_var rfl r2) ea_nil)))
      (fun G' vs s ⟨v, r, e, q, v', r', e', q', v'', r'', e'', q'', e3⟩ => ⟨v, v', v'', by rw [e, e', e'', e3], q, q', q''⟩) fun _ _ _ q => q) fun v G' H' s A r => k v G' H' s A r
/-- a call of is_number -/
theorem ev_isNumber {σ : L2.St} {G L : Hp} {ta tb : TE} {x : Option Int} {hi : Int} {E : XK} (h1 : Ev ta σ G L (RO K) x) (h2 : Ev tb σ G L RI hi) : Ev (tCall (spIsNumber K) [] E (tCons ta (tCons tb tNil))) σ G L RB (inR x 0 hi) :=
  ev_call (x, hi) (ea_cons h1 (ea_cons h2 ea_nil)) (fun G' vs s ⟨v, r, e, q, v', r', e', q', e3⟩ => ⟨v, v', by rw [e, e', e3], q, q'⟩) fun _ _ _ q => q

/-! is_prime -/
abbrev sIsPrime : Stmt := top 11
abbrev nIsPrime : List Str := ["thing"]
abbrev pIsPrime : List Str := ["thing"]
theorem scIsPrime : FnScope nIsPrime pIsPrime (defScope sIsPrime) := ⟨rfl, rfl, rfl, by decide +kernel, rfl, by decide +kernel, by decide +kernel⟩
def isP (p : Int) : Bool := ([2, 3, 5, 7, 11, 13] : List Int).contains p
def spIsPrime (K : Fg) : Sp := SpP (ι := Int) (fun i G vs => ∃ v1, vs = [v1] ∧ RI G v1 i) (fun i G v => RB G v (isP i))
theorem ok_IsPrime (T : Txt K mg a) (h : Has K mg "is_prime" sIsPrime pIsPrime) (G_is_integer : Fd P w K mg base CX0 "is_integer" pIsInteger 1 (spIsInteger K)) : Fd P w K mg base CX0 "is_prime" pIsPrime 2 (spIsPrime K) := by
  refine h.ok scIsPrime (fun vs H Q E h => ?_) (fun f cdv A outer s H vs Q E hr h => ?_)
  · obtain ⟨i, G, F, _, ⟨v1, rfl, _⟩, _⟩ := h
    rfl
  · obtain ⟨i, G, F, hA, ⟨v1, rfl, r1⟩, k⟩ := h
    have nd := scIsPrime.nd
    refine ⟨_, (pss_one (ps_ret (pe_and (pe_fd G_is_integer (hr.mono (by decide)) (by rfl) (pa_cons (pv 0) pa_nil)) (pe_one (pe_cmpR op_in_seq (pv 0) (pe_glob (v := .ref a.PR) (by rfl) T.mgPRIMES rfl) rfl))))), ?_⟩
    refine s_ret (L := no) hA no_sub (R := RB) (x := isP i) (Ev.is (ev_andV (a := true) (b := isP i) (ev_call (some i) (ea_cons (R := RO K) (x := some i) (ev_var rfl r1) ea_nil) (fun G' vs s ⟨v, r, e, q, e2⟩ => ⟨v, by rw [e, e2], q⟩) fun _ _ _ q => q) fun _ => ?_) ?_) fun v G' H' s A r => k v G' H' s A r
    · exact ev_inT (neg := false) (ev_var rfl r1) (ev_c fun G => ⟨a.PR, _, rfl, T.primes G, ints_p _⟩)
    · exact Bool.true_and _

/-! inverse_of -/
abbrev sInverseOf : Stmt := top 12
abbrev nInverseOf : List Str := ["prime", "worth", "found", "turn"]
abbrev pInverseOf : List Str := ["prime", "worth"]
theorem scInverseOf : FnScope nInverseOf pInverseOf (defScope sInverseOf) := ⟨rfl, rfl, rfl, by decide +kernel, rfl, by decide +kernel, by decide +kernel⟩
def spInverseOf (K : Fg) : Sp := SpP (ι := Int × Int) (fun i G vs => ∃ v1 v2, vs = [v1, v2] ∧ RI G v1 i.1 ∧ RI G v2 i.2 ∧ 2 ≤ i.1 ∧ i.1 ≤ 13 ∧ 0 ≤ i.2 ∧ i.2 < i.1) (fun i G v => RI G v (invF i.1 i.2))
def invN (p w : Int) (n : Nat) : Int := (List.range n).foldl (fun f _ => f * w % p) 1
theorem invN_succ (p w : Int) (n : Nat) : invN p w (n + 1) = invN p w n * w % p := by
  unfold invN
  rw [List.range_succ, List.foldl_append]
  rfl
theorem invN_bd {p w : Int} (hp : 2 ≤ p) : ∀ n, 0 ≤ invN p w n ∧ invN p w n < p
  | 0 => by unfold invN; simp; omega
  | n + 1 => by rw [invN_succ]; exact ⟨Int.emod_nonneg _ (by omega), Int.emod_lt_of_pos _ (by omega)⟩
theorem ok_InverseOf (T : Txt K mg a) (h : Has K mg "inverse_of" sInverseOf pInverseOf) : Fd P w K mg base CX0 "inverse_of" pInverseOf 1 (spInverseOf K) := by
  refine h.ok scInverseOf (fun vs H Q E h => ?_) (fun f cdv A outer s H vs Q E hr h => ?_)
  · obtain ⟨i, G, F, _, ⟨v1, v2, rfl, _⟩, _⟩ := h
    rfl
  · obtain ⟨⟨p, x⟩, G, F, hA, ⟨v1, v2, rfl, r1, r2, hp, hp2, hx, hx2⟩, k⟩ := h
    have nd := scInverseOf.nd
    dsimp only at r1 r2 hp hp2 hx hx2
    cases r1
    cases r2
    refine ⟨_, (pss_cons (ps_set (i := 2) nd rfl (Or.inl rfl) pe_int)
      (pss_cons (ps_for PassesOwn.never rfl (pi_range1 (by rfl) T.brange (pa_cons (pe_op op_sub (pv 0) pe_int) pa_nil)) (pg_name (i := 3) nd rfl (by first | exact Or.inl rfl | exact Or.inr rfl))
        (pss_one (ps_set (i := 2) nd rfl (Or.inl rfl) (pe_op op_modN (pe_op op_mul (pv 2) (pv 1)) (pv 0)))))
      (pss_one (ps_ret (pv 2))))), ?_⟩
    refine s_asg (L := no) hA no_sub (R := RI) (x := 1) ev_i fun v3 G1 H1 s1 A1 r3 => ?_
    cases r3
    refine s_for (L := no) (n := (p - 2).toNat) A1 no_sub (ei_rangeN (m := (p - 2).toNat) ((ev_sub (ev_var (R := RI) rfl rfl) ev_i).is (by omega)) (by omega)) (fun i σ G' F' => F' = F ∧ ∃ v, σ = [some (.int p), some (.int x), some (.int (invN p x i)), v]) (fun G' _ => ⟨rfl, none, rfl⟩) (fun _ _ _ _ _ => no_sub) ?_ ?_
    · rintro G0 s0 i v σ' G' F' H' hi ⟨rfl, v', rfl⟩ G'' s2 s3 A2 rfl
      refine s_asg (L := no) A2 no_sub (R := RI) (x := invN p x (i + 1)) ?_ fun v4 G4 H4 s4 A4 r4 => ?_
      · have bd := invN_bd (p := p) (w := x) hp i
        exact (ev_mod (ev_mul (ev_var (R := RI) rfl rfl) (ev_var (R := RI) rfl rfl) (.inl ⟨by omega, by omega⟩)) (ev_var (R := RI) rfl rfl) (by omega)).is (invN_succ p x i).symm
      · cases r4
        exact ⟨G4, F', s3.trans s4, A4, rfl, _, rfl⟩
    · rintro σ' G' F' H' s2 A2 ⟨rfl, v', rfl⟩
      exact s_ret (L := no) A2 no_sub (R := RI) (x := invN p x (p - 2).toNat) (ev_var rfl rfl) fun v G4 H4 s4 A4 r4 => k v G4 H4 ((s1.trans s2).trans s4) A4 r4
end
end MW

set_option Elab.async false
set_option linter.all false
set_option maxRecDepth 100000
set_option maxHeartbeats 4000000
/-! Comprehensions over known data, more rules' readings. -/
namespace MW
open PySem PySem.Spec PyProof.Rows L2
theorem fm_map {α β : Type} (g : α → β) (xs : List α) : (List.range xs.length).filterMap (fun i => (xs[i]?).map g) = xs.map g := by
  induction xs with
  | nil => rfl
  | cons x xs ih =>
    rw [List.length_cons, List.range_succ_eq_map, List.filterMap_cons]
    simp only [List.getElem?_cons_zero, Option.map_some, List.filterMap_map, List.map_cons]
    congr 1
theorem fm_filter {α β : Type} (p : α → Bool) (g : α → β) (xs : List α) : (List.range xs.length).filterMap (fun i => (xs[i]?).bind fun x => if p x = true then some (g x) else none) = (xs.filter p).map g := by
  induction xs with
  | nil => rfl
  | cons x xs ih =>
    rw [List.length_cons, List.range_succ_eq_map, List.filterMap_cons]
    simp only [List.getElem?_cons_zero, Option.bind_some, List.filterMap_map, List.filter_cons]
    have e : (List.filterMap ((fun i => (x :: xs)[i]?.bind fun x => if p x = true then some (g x) else none) ∘ Nat.succ) (List.range xs.length)) = (xs.filter p).map g := ih
    cases h : p x
    · simp only [Bool.false_eq_true, if_false]
      exact e
    · simp only [if_true, List.map_cons]
      rw [e]
theorem fm_range {β : Type} (p : Nat → Bool) (g : Nat → β) (n : Nat) : (List.range n).filterMap (fun i => if p i = true then some (g i) else none) = ((List.range n).filter p).map g := by
  generalize List.range n = l
  induction l with
  | nil => rfl
  | cons a l ih =>
    rw [List.filterMap_cons, List.filter_cons]
    cases h : p a
    · simpa using ih
    · simpa using ih
section
variable {α β γ δ : Type} {K : Fg} {σ : L2.St} {G L : Hp} {ta tb te : TE} {tt : TT} {wi : TI} {R : Rel α} {S : Rel β} [Mn R] [Mn S] {j : Nat}
/-- [e for x in xs] -/
theorem ef_lcX {xs : List α} (hi : EvI wi σ G L xs.length (fun i G' v => ∃ x, xs[i]? = some x ∧ R G' v x)) (g : α → β) (hn : xs.length ≤ 1000000)
    (he : ∀ x v G', x ∈ xs → Same G G' → R G' v x → Ev te ((wipe σ [j]).set j (some v)) G' L S (g x)) : EvF (tLc wi (gName j) tYes te [j]) σ G L S (xs.map g) := by
  have q := ef_lc1 (R := S) (te := te) (tt := tYes) (j := j) (fun i => (xs[i]?).map g) hi hn (fun i v G' G'' s ⟨x, e, r⟩ => ⟨x, e, mn s r⟩) (fun i v G' hi' s ⟨x, e, r⟩ => by
      simp only [e, Option.map_some, Option.isSome_some]
      exact et_yes) (fun i v G' y hi' s ⟨x, e, r⟩ hf => by
      rw [e] at hf
      cases hf
      exact he x v G' (List.mem_of_getElem? e) s r)
  rw [fm_map] at q
  exact q
/-- [e for x in xs if t] -/
theorem ef_lcXF {xs : List α} (hi : EvI wi σ G L xs.length (fun i G' v => ∃ x, xs[i]? = some x ∧ R G' v x)) (p : α → Bool) (g : α → β) (hn : xs.length ≤ 1000000)
    (ht : ∀ x v G', x ∈ xs → Same G G' → R G' v x → EvT tt ((wipe σ [j]).set j (some v)) G' L (p x))
    (he : ∀ x v G', x ∈ xs → p x = true → Same G G' → R G' v x → Ev te ((wipe σ [j]).set j (some v)) G' L S (g x)) : EvF (tLc wi (gName j) tt te [j]) σ G L S ((xs.filter p).map g) := by
  have q := ef_lc1 (R := S) (te := te) (tt := tt) (j := j) (fun i => (xs[i]?).bind fun x => if p x = true then some (g x) else none) hi hn (fun i v G' G'' s ⟨x, e, r⟩ => ⟨x, e, mn s r⟩) (fun i v G' hi' s ⟨x, e, r⟩ => by
      refine (ht x v G' (List.mem_of_getElem? e) s r).is ?_
      rw [e]
      simp only [Option.bind_some]
      cases p x <;> rfl) (fun i v G' y hi' s ⟨x, e, r⟩ hf => by
      rw [e] at hf
      simp only [Option.bind_some] at hf
      cases h : p x
      · rw [h] at hf
        cases hf
      · rw [h] at hf
        cases hf
        exact he x v G' (List.mem_of_getElem? e) h s r)
  rw [fm_filter] at q
  exact q
/-- [e for (a, b) in pairs] -/
theorem ef_lcP {i' : Nat} {T : Rel δ} [Mn T] {xs : List (α × β)} (hi : EvI wi σ G L xs.length (fun i G' v => ∃ x, xs[i]? = some x ∧ RP K R S G' v x)) (g : α × β → δ) (hn : xs.length ≤ 1000000)
    (he : ∀ x v1 v2 G', x ∈ xs → Same G G' → R G' v1 x.1 → S G' v2 x.2 → Ev te (((wipe σ [i', j]).set i' (some v1)).set j (some v2)) G' L T (g x)) : EvF (tLc wi (gTup K 2 (gCons (gName i') (gCons (gName j) gNil))) tYes te [i', j]) σ G L T (xs.map g) := by
  have q := ef_lc2 (R := T) (K := K) (te := te) (tt := tYes) (i := i') (j := j) (R1 := R) (R2 := S) (fun i => (xs[i]?).map g) (fun k x => xs[k]? = some x) hi hn (fun k v G' h => h) (fun k x v1 v2 G' hk s e r1 r2 => by
      simp only [e, Option.map_some, Option.isSome_some]
      exact et_yes) (fun k x v1 v2 G' y hk s e r1 r2 hf => by
      rw [e] at hf
      cases hf
      exact he x v1 v2 G' (List.mem_of_getElem? e) s r1 r2)
  rw [fm_map] at q
  exact q
theorem ef_lcPF {i' : Nat} {T : Rel δ} [Mn T] {xs : List (α × β)} (hi : EvI wi σ G L xs.length (fun i G' v => ∃ x, xs[i]? = some x ∧ RP K R S G' v x)) (p : α × β → Bool) (g : α × β → δ) (hn : xs.length ≤ 1000000)
    (ht : ∀ x v1 v2 G', x ∈ xs → Same G G' → R G' v1 x.1 → S G' v2 x.2 → EvT tt (((wipe σ [i', j]).set i' (some v1)).set j (some v2)) G' L (p x))
    (he : ∀ x v1 v2 G', x ∈ xs → p x = true → Same G G' → R G' v1 x.1 → S G' v2 x.2 → Ev te (((wipe σ [i', j]).set i' (some v1)).set j (some v2)) G' L T (g x)) : EvF (tLc wi (gTup K 2 (gCons (gName i') (gCons (gName j) gNil))) tt te [i', j]) σ G L T ((xs.filter p).map g) := by
  have q := ef_lc2 (R := T) (K := K) (te := te) (tt := tt) (i := i') (j := j) (R1 := R) (R2 := S) (fun i => (xs[i]?).bind fun x => if p x = true then some (g x) else none) (fun k x => xs[k]? = some x) hi hn (fun k v G' h => h) (fun k x v1 v2 G' hk s e r1 r2 => by
      refine (ht x v1 v2 G' (List.mem_of_getElem? e) s r1 r2).is ?_
      rw [e]
      simp only [Option.bind_some]
      cases p x <;> rfl) (fun k x v1 v2 G' y hk s e r1 r2 hf => by
      rw [e] at hf
      simp only [Option.bind_some] at hf
      cases h : p x
      · rw [h] at hf
        cases hf
      · rw [h] at hf
        cases hf
        exact he x v1 v2 G' (List.mem_of_getElem? e) h s r1 r2)
  rw [fm_filter] at q
  exact q
/-- [e for i in range(n)] -/
theorem ef_lcR {n : Nat} (hn : Ev ta σ G L RN n) (hb : n ≤ 1000000) (g : Nat → β) (he : ∀ i v G', i < n → Same G G' → RN G' v i → Ev te ((wipe σ [j]).set j (some v)) G' L S (g i)) :
    EvF (tLc (iRng1 (tCons ta tNil)) (gName j) tYes te [j]) σ G L S ((List.range n).map g) := by
  have q := ef_lc1 (R := S) (te := te) (tt := tYes) (j := j) (fun i => some (g i)) (ei_rangeN hn.ni (by omega)) hb (fun i v G' G'' s e => e) (fun i v G' hi' s e => et_yes) (fun i v G' y hi' s e hf => by
      cases hf
      exact he i v G' hi' s e)
  rw [filterMap_some] at q
  exact q
theorem ef_lcRF {n : Nat} (hn : Ev ta σ G L RN n) (hb : n ≤ 1000000) (p : Nat → Bool) (g : Nat → β) (ht : ∀ i v G', i < n → Same G G' → RN G' v i → EvT tt ((wipe σ [j]).set j (some v)) G' L (p i))
    (he : ∀ i v G', i < n → p i = true → Same G G' → RN G' v i → Ev te ((wipe σ [j]).set j (some v)) G' L S (g i)) :
    EvF (tLc (iRng1 (tCons ta tNil)) (gName j) tt te [j]) σ G L S (((List.range n).filter p).map g) := by
  have q := ef_lc1 (R := S) (te := te) (tt := tt) (j := j) (fun i => if p i = true then some (g i) else none) (ei_rangeN hn.ni (by omega)) hb (fun i v G' G'' s e => e) (fun i v G' hi' s e => by
      refine (ht i v G' hi' s e).is ?_
      cases p i <;> rfl) (fun i v G' y hi' s e hf => by
      cases h : p i
      · rw [h] at hf
        cases hf
      · rw [h] at hf
        cases hf
        exact he i v G' hi' h s e)
  rw [fm_range] at q
  exact q
/-! sum of tuples, slices of tuples, tuples one behind another -/
theorem pflat {G : Hp} : ∀ {as : List V} {xss : List (List α)}, Paired (RT K R G) as xss → ∃ vss : List (List V), Paired (fun v ws => ∃ a, v = V.ref a ∧ SqT K G a ws) as vss ∧ Paired (R G) vss.flatten xss.flatten ∧ vss.map List.length = xss.map List.length
  | _, _, .nil => ⟨[], .nil, .nil, rfl⟩
  | _, _, .cons ⟨a, vs, e, hq, p⟩ t => by
    obtain ⟨vss, h1, h2, h3⟩ := pflat t
    exact ⟨vs :: vss, .cons ⟨a, e, hq⟩ h1, papp p h2, by rw [List.map_cons, List.map_cons, h3, Paired.len p]⟩
theorem ev_sumT {xss : List (List α)} (h : Ev ta σ G L (RL K (RT K R)) xss) (hz : (xss.map List.length).sum ≤ 1000000) : Ev (tCB (rSumT K) (tCons ta (tCons (tTup tNil) tNil))) σ G L (RT K R) xss.flatten := fun G1 F H s c A Q q =>
  h G1 F H s c A _ fun v G2 H2 s2 A2 r2 => ⟨Nat.zero_le _, fun t0 ht0 => by
    have s3 : Same G2 (upd G2 t0 (.tup [])) := same_new (A2.nG ht0)
    obtain ⟨a, vs, e, hq, p⟩ := mn s3 r2
    obtain ⟨vss, h1, h2, h3⟩ := pflat p
    have A3 := A2.new (o := .tup []) ht0
    refine ⟨a, t0, vs, vss, by rw [e], sqlS A3.g hq, .inl (.inl upd_same), Paired.mapP h1 fun v ws ⟨b, eb, hb⟩ => ⟨b, eb, sqtS A3.g hb⟩, by rw [h3]; exact hz, fun b hb => ?_, fun b hb => ?_⟩
    · rcases hb with ⟨e1, e2⟩ | ⟨i, e1, e2⟩
      · subst e1
        rw [e2] at h2
        exact q _ _ _ (s2.trans s3) A3 ⟨b, [], rfl, .inl (.inl upd_same), h2⟩
      · obtain ⟨b', e3, e4⟩ : ∃ b', V.ref b = V.ref b' ∧ SqT K (upd G2 t0 (.tup [])) b' vss.flatten := by
          obtain ⟨v', z1, z2⟩ := pget h1 e2
          rw [e1] at z1
          cases z1
          exact z2
        cases e3
        exact q _ _ _ (s2.trans s3) A3 ⟨b, vss.flatten, rfl, e4, h2⟩
    · have s4 := same_new (o := .tup vss.flatten) (A3.nG hb)
      exact q _ _ _ ((s2.trans s3).trans s4) (A3.new hb) ⟨b, vss.flatten, rfl, .inl (.inl upd_same), pairedS s4 h2⟩⟩
end
end MW

set_option Elab.async false
set_option linter.all false
set_option maxRecDepth 100000
set_option maxHeartbeats 4000000
/-! The rules whose reading names the written part, with that part told apart (within a comprehension's block it must not name the block). -/
namespace MW
open PySem PySem.Spec PyProof.Rows L2
section
variable {X : Cx} {K : Fg}
theorem k_ix (hK : X.K = K) : IxR X (rIx K) := by subst hK; exact ix_seq
theorem k_sl (hK : X.K = K) : SlR X (rSl K) := by subst hK; exact sl_seq
theorem k_in (hK : X.K = K) : OpR X (compareOp .In) (rIn K false) := by subst hK; exact op_in_seq
theorem k_notIn (hK : X.K = K) : OpR X (compareOp .NotIn) (rIn K true) := by subst hK; exact op_notIn_seq
theorem k_len (hK : X.K = K) : CallR X (.builtin "len") (rLen K) := by subst hK; exact call_len_seq
theorem k_tuple (hK : X.K = K) : CallR X (.type "tuple") (rTupOf K) := by subst hK; exact call_tuple_of
theorem k_list (hK : X.K = K) : CallR X (.type "list") (rLstOf K) := by subst hK; exact call_list_of
theorem k_isi (hK : X.K = K) : CallR X (.builtin "isinstance") (rIsi K) := by subst hK; exact call_isi
theorem k_sum (hK : X.K = K) (hc : X.calm = true) : CallR X (.builtin "sum") (rSum K) := by subst hK; exact cr_sum hc
theorem k_all (hK : X.K = K) (hc : X.calm = true) : CallR X (.builtin "all") (rAll K) := by subst hK; exact cr_all hc
theorem k_any (hK : X.K = K) (hc : X.calm = true) : CallR X (.builtin "any") (rAny K) := by subst hK; exact cr_any hc
theorem k_sumT (hK : X.K = K) (hc : X.calm = true) : CallR X (.builtin "sum") (rSumT K) := by subst hK; exact cr_sumT hc
theorem k_catA (hK : X.K = K) : OpR X (binaryOp .Add) (rCatA K) := by subst hK; exact op_catA
theorem k_repA (hK : X.K = K) : OpR X (binaryOp .Mult) (rRepA K) := by subst hK; exact op_repA
theorem k_eqD (hK : X.K = K) (hu : X.A.units + 64 < cLine) : OpR X (compareOp .Eq) (rEqD K) := by subst hK; exact op_eqD hu
theorem k_neD (hK : X.K = K) (hu : X.A.units + 64 < cLine) : OpR X (compareOp .NotEq) (rNeD K) := by subst hK; exact op_neD hu
theorem k_removeD (hK : X.K = K) (hu : X.A.units + 65 < cLine) : MtR X "list.remove" (rRemD K) := by subst hK; exact mt_removeD hu
theorem k_countD (hK : X.K = K) (hu : X.A.units + 65 < cLine) : MtR X "list.count" (rCntD K) := by subst hK; exact mt_countD hu
theorem hu65 {k : Nat} {A : Around} (r : Room k A) : A.units + 65 < cLine := by have := r.un; omega
theorem k_fld {e : Expr} {ta : TE} {f : Str} {pos : Pos} (hK : X.K = K) (he : PE X e ta) (hb : attributeBase e f X.env (eval e X.env) = eval e X.env) : PE X (.Attribute e f pos) (tFld K ta f) := by subst hK; exact pe_fld he hb
theorem k_sfld {o value : Expr} {ta tv : TE} {f : Str} {pos' pos : Pos} (hK : X.K = K) (ha : PE X o ta) (hv : PE X value tv) (hs : swapsWith value (some (.Attribute o f pos')) pos.line X.env = pure false) : PS X (.Assign [.Attribute o f pos'] value pos) (sFld K ta tv f) := by subst hK; exact ps_fld ha hv hs
theorem k_seq {tg l : Expr} {tl : TE} (hK : X.K = K) (hl : PE X l tl) : PI X tg l (iSeq K tl) := by subst hK; exact pi_seq hl
theorem k_enumT {e : Expr} {ta : TA} {p pos tpos : Pos} {elts : List Expr} {kk : Nat} (hK : X.K = K) (hg : Gl X "enumerate") (hm : X.mg "enumerate" = none) (ha : PA X [e] ta) (hs : starEach [e] X.env = [(false, eval e X.env)] := by rfl) : PI X (.Tuple elts kk tpos) (.Call (.Name "enumerate" p) [e] [] pos) (iEnumT K ta) := by subst hK; exact pi_enumT hg hm ha hs
theorem k_zip {e e2 : Expr} {ta : TA} {p pos tpos : Pos} {elts : List Expr} {kk : Nat} (hK : X.K = K) (hg : Gl X "zip") (hm : X.mg "zip" = none) (ha : PA X [e, e2] ta)
    (hs : starEach [e, e2] X.env = (false, eval e X.env) :: starEach [e2] X.env := by rfl) (hpl : (backTo pos (starEach [e2] X.env)).any (·.1) = false := by rfl) : PI X (.Tuple elts kk tpos) (.Call (.Name "zip" p) [e, e2] [] pos) (RZ.iZipA K ta) := by subst hK; exact RZ.pi_zipA hg hm ha hs hpl
theorem k_tup {es : List Expr} {k : Nat} {t : TGs} {n : Nat} {pos : Pos} (hK : X.K = K) (hc : X.calm = true) (h : PGs X es t)
    (hn : (assignEach es X.env).length = n := by rfl) (hst : (assignEach es X.env).findIdx? (·.1) = none := by rfl) : PG X (.Tuple es k pos) (gTup K n t) := by subst hK; exact pg_tup hc h hn hst
theorem k_bm {T id : String} {name : Str} {r : V → List V → Hp → VK → Prop} {o e : Expr} {es : List Expr} {to : TE} {t : TA} {apos cpos : Pos} (hK : X.K = K) (pa : PlainAttrs T) (slot : Slot T name id) (hty : typeOf (.builtin id) = pure (.type "method_descriptor")) (hm : MtR X id r) (ho : PE X o to) (ha : PA X (e :: es) t)
    (hbase : attributeBase o name X.env (eval o X.env) = eval o X.env := by rfl)
    (hfew : ((backTo cpos (starEach (e :: es) X.env)).all (fun x => !x.1) && (backToKw cpos (keywordEach [] X.env)).all (fun x => x.1.isSome)
      && decide ((e :: es).length + ([] : List Keyword).length + (if ([] : List Keyword).isEmpty then 0 else 1) < 30)) = true := by rfl)
    (hline : (apos.endLine == cpos.line) = true := by rfl) (hs : starEach (e :: es) X.env = (false, eval e X.env) :: starEach es X.env := by rfl) (hplain : (backTo cpos (starEach es X.env)).any (·.1) = false := by rfl) :
    PE X (.Call (.Attribute o name apos) (e :: es) [] cpos) (tBM K T r to t) := by subst hK; exact pe_bm pa slot hty hm ho ha hbase hfew hline hs hplain
theorem k_revT {e : Expr} {te : TE} {k : Nat} {p1 p2 p3 pos : Pos} (hK : X.K = K) (he : PE X e te) : PE X (.Subscript e (.Slice none none (some (.UnaryOp .USub (.Constant (.int 1) k p1) p2)) p3) pos) (tRevT K te) := by subst hK; exact pe_revT he
end
end MW

set_option Elab.async false
set_option linter.all false
set_option maxRecDepth 100000
set_option maxHeartbeats 4000000
/-! Walks: tables. -/
namespace MW
open PySem PySem.Spec PyProof.Rows L2
section
variable {P : Program} {w : World} {K : Fg} {mg : Str → Option Value} {base : Heap} {a : Adr}

/-! is_column -/
abbrev sIsColumn : Stmt := top 15
abbrev nIsColumn : List Str := ["prime", "size", "thing", "worth"]
abbrev pIsColumn : List Str := ["prime", "size", "thing"]
theorem scIsColumn : FnScope nIsColumn pIsColumn (defScope sIsColumn) := ⟨rfl, rfl, rfl, by decide +kernel, rfl, by decide +kernel, by decide +kernel⟩
def spIsColumn (K : Fg) : Sp := SpP (ι := Int × Nat × List Int) (fun i G vs => ∃ v1 v2 v3, vs = [v1, v2, v3] ∧ RI G v1 i.1 ∧ RN G v2 i.2.1 ∧ RT K RI G v3 i.2.2 ∧ Wr i.1 i.2.1 i.2.2 ∧ i.2.1 ≤ 1000) (fun i G v => RB G v true)
theorem ok_IsColumn (T : Txt K mg a) (h : Has K mg "is_column" sIsColumn pIsColumn) (G_is_number : Fd P w K mg base CX0 "is_number" pIsNumber 3 (spIsNumber K)) : Fd P w K mg base CX0 "is_column" pIsColumn 4 (spIsColumn K) := by
  refine h.ok scIsColumn (fun vs H Q E h => ?_) (fun f cdv A outer s H vs Q E hr h => ?_)
  · obtain ⟨i, G, F, _, ⟨v1, v2, v3, rfl, _⟩, _⟩ := h
    rfl
  · obtain ⟨⟨p, n, r⟩, G, F, hA, ⟨v1, v2, v3, rfl, r1, r2, r3, ⟨hl, hw⟩, hn⟩, k⟩ := h
    dsimp only at r1 r2 r3 hl hw hn
    have nd := scIsColumn.nd
    refine ⟨_, (pss_one (ps_ret (pe_and (pe_callB call_isi (by rfl) T.bisinstance (by decide +kernel) (pa_cons (pv 2) (pa_cons (pe_bltn (v := .ty "tuple") (by rfl) T.btuple (by decide +kernel) rfl) pa_nil))) (pe_and (pe_cmpR op_eq (pe_callB call_len_seq (by rfl) T.blen PySem.boot_len (pa_cons (pv 2) pa_nil)) (pv 1) (nomark _)) (pe_one (pe_callB (cr_all rfl) (by rfl) T.ball (by decide +kernel) (pa_cons (pe_lc (own := [("worth", 3)]) (g := (gName 3)) (tt := tYes) rfl nd (pi_seq (pv 2)) (blkOk_by (N := nIsColumn) (sc := defScope sIsColumn) (by decide +kernel)) (fun _ _ _ _ _ => (pg_name (i := 3) nd rfl (by first | exact Or.inl rfl | exact Or.inr rfl))) (fun _ _ _ _ _ => pts_nil) (fun _ _ _ _ _ => (pe_fd G_is_number (hr.mono (by decide)) (by rfl) (pa_cons (pv 3) (pa_cons (pe_op op_sub (pv 0) pe_int) pa_nil))))) pa_nil))))))), ?_⟩
    refine s_ret (L := no) hA no_sub (R := RB) (x := true) (ev_andV (a := true) (b := true) (ev_isTup (ev_var rfl r3)) fun _ => ev_andV (a := true) (b := true) ?_ fun _ => ?_) fun v G' H' s A q => k v G' H' s A q
    · exact (ev_eqI (i := (r.length : Int)) (j := (n : Int)) (ev_lenT (ev_var rfl r3)) (ev_var (R := RN) rfl r2).ni).is (by rw [hl]; simp)
    · refine (ev_all (ef_lcX (S := RB) (ei_seqT (ev_var rfl r3)) (fun x => inR (some x) 0 (p - 1)) (by omega) fun x v G' hx s q => ?_).ev).is ?_
      · exact ev_isNumber (Ev.ro (ev_var (R := RI) rfl q)) (ev_sub (ev_var rfl (mn s r1)) ev_i)
      · simp only [List.all_map, List.all_eq_true]
        intro x hx
        have := hw x hx
        simp [inR]
        omega

theorem putF_le {f : Str} {v : V} : ∀ {fs : List (Str × V)} {n : Nat}, fs.length ≤ n → (putF f v fs).length ≤ n + 1
  | [], n, _ => Nat.succ_le_succ (Nat.zero_le n)
  | (g, x) :: r, n, h => by
    unfold putF
    split
    · rw [List.length_cons] at h ⊢; omega
    · rw [List.length_cons] at h ⊢
      have := putF_le (f := f) (v := v) (fs := r) (n := n - 1) (by omega)
      omega
theorem nil_le : ([] : List (Str × V)).length ≤ 0 := Nat.le_refl 0
theorem f1_lt {f : Str} {v : V} : (putF f v []).length < 1000 := Nat.lt_of_le_of_lt (putF_le nil_le) (by decide)
theorem f2_lt {f g : Str} {v u : V} : (putF g u (putF f v [])).length < 1000 := Nat.lt_of_le_of_lt (putF_le (putF_le nil_le)) (by decide)
theorem f3_lt {f g h : Str} {v u w : V} : (putF h w (putF g u (putF f v []))).length < 1000 := Nat.lt_of_le_of_lt (putF_le (putF_le (putF_le nil_le))) (by decide)

/-! Table.keep -/
abbrev sTableKeep : Stmt := inClass (top 16) 1
abbrev nTableKeep : List Str := ["self", "prime", "wide", "rows"]
abbrev pTableKeep : List Str := ["self", "prime", "wide", "rows"]
theorem scTableKeep : FnScope nTableKeep pTableKeep (defScope sTableKeep) := ⟨rfl, rfl, rfl, by decide +kernel, rfl, by decide +kernel, by decide +kernel⟩
/-- the attributes of a table -/
def fsTab (K : Fg) (d : TabD) (G : Hp) (fs : List (Str × V)) : Prop := fs.lookup ("prime" : Str) = some (.int d.p) ∧ fs.lookup ("wide" : Str) = some (.int d.wide) ∧ fs.lookup ("high" : Str) = some (.int d.rows.length) ∧ ∃ r, fs.lookup ("rows" : Str) = some r ∧ RT K (RT K RI) G r d.rows
def preTab (K : Fg) (d : TabD) (G : Hp) (ws : List V) : Prop := ∃ v1 v2 v3, ws = [v1, v2, v3] ∧ RI G v1 d.p ∧ RN G v2 d.wide ∧ RT K (RT K RI) G v3 d.rows
def IsTabC (a : Adr) (C : Addr) : Prop := C = a.Tb ∨ C = a.RTb
theorem Txt.tab {C : Addr} (T : Txt K mg a) (h : IsTabC a C) : Cls K C ∧ NoAttr K C "prime" ∧ NoAttr K C "wide" ∧ NoAttr K C "rows" ∧ NoAttr K C "high" := by
  rcases h with e | e
  · subst e; exact ⟨T.cTb.cl, T.nTb⟩
  · subst e; exact ⟨T.cRTb.cl, T.nRTb⟩
theorem fsTab_mn {d : TabD} {G G' : Hp} {fs : List (Str × V)} (s : Same G G') (h : fsTab K d G fs) : fsTab K d G' fs := ⟨h.1, h.2.1, h.2.2.1, let ⟨r, e, q⟩ := h.2.2.2; ⟨r, e, mn s q⟩⟩
theorem ok_TableKeep (T : Txt K mg a) {C : Addr} (hC : IsTabC a C) (h : HasM K C "keep" "Table.keep" sTableKeep pTableKeep) : Md P w K mg base CX0 C "keep" pTableKeep 1 (SpI C (preTab K) (fsTab K)) := by
  refine h.ok scTableKeep (fun vs H Q E h => ?_) (fun f cdv A outer s H vs Q E hr h => ?_)
  · obtain ⟨i, G, F, x, dx, ws, rfl, _, _, ⟨v1, v2, v3, rfl, _⟩, _⟩ := h
    rfl
  · obtain ⟨d, G, F, x, dx, ws, rfl, hA, hx, ⟨v1, v2, v3, rfl, r1, r2, r3⟩, k⟩ := h
    have nd := scTableKeep.nd
    obtain ⟨c, n1, n2, n3, n4⟩ := T.tab hC
    refine ⟨_, (pss_cons (ps_fld (pv 0) (pv 1) rfl)
      (pss_cons (ps_fld (pv 0) (pv 2) rfl)
      (pss_cons (ps_fld (pv 0) (pv 3) rfl)
      (pss_one (ps_fld (pv 0) (pe_callB call_len_seq (by rfl) T.blen PySem.boot_len (pa_cons (pv 3) pa_nil)) rfl))))), ?_⟩
    refine s_fld (L := no) hA no_sub rfl hx (ev_var (R := RI) rfl r1) c n1 (by decide) fun w1 G1 H1 s1 A1 q1 => ?_
    refine s_fld (L := no) A1 no_sub rfl upd_same (ev_var (R := RN) rfl (mn s1 r2)) c n2 f1_lt fun w2 G2 H2 s2 A2 q2 => ?_
    rw [upd_upd] at A2
    have r3' := mn (s1.trans s2) r3
    refine s_fld (L := no) A2 no_sub rfl upd_same (ev_var (R := RT K (RT K RI)) rfl r3') c n3 f2_lt fun w3 G3 H3 s3 A3 q3 => ?_
    rw [upd_upd] at A3
    refine s_fld (L := no) A3 no_sub rfl upd_same (ev_lenT (ev_var (R := RT K (RT K RI)) rfl (mn s3 r3'))) c n4 f3_lt fun w4 G4 H4 s4 A4 q4 => ?_
    rw [upd_upd] at A4
    refine k G4 H4 _ (((s1.trans s2).trans s3).trans s4) A4 ?_
    cases q1
    cases q2
    cases q4
    exact ⟨rfl, rfl, rfl, w3, rfl, mn s4 q3⟩

/-! Table.__init__, RawTable.__init__ -/
theorem s_no {σ : L2.St} {G F H L : Hp} {tt : TT} {tu : TS} {D : Ends} (A : At G F H) (c : Same L F) (h : EvT tt σ G L false) (k : ∀ G' H', Same G G' → At G' F H' → D.nx σ H') : tIfS tt tu tNext D σ H :=
  s_if A c h (fun e => nomatch e) fun _ G' H' s A' => k G' H' s A'
theorem s_meth {ι : Type} {C x dx : Addr} {m : Str} {j : Nat} {pre : ι → Hp → List V → Prop} {fs : ι → Hp → List (Str × V) → Prop} {Pv : Hp → List V → Prop} {E : XK} {ta : TA} {σ : L2.St} {G F H L : Hp} {D : Ends} (A : At G F H) (c : Same L F) (hk : σ[j]? = some (some (.ref x))) (hx : F x = some (.ins C dx []))
    (ha : EvA ta σ G L Pv) (i : ι) (h1 : ∀ G' vs, Same G G' → Pv G' vs → pre i G' vs) (kk : ∀ G' H' fl, Same G G' → At G' (upd F x (.ins C dx fl)) H' → fs i G' fl → D.nx σ H') : tDrop (tMeth C m (SpI C pre fs) [] E (tVar j) ta) D σ H :=
  ⟨_, hk, x, dx, [], rfl, A.f _ _ hx, rfl, ha G F H (Same.refl _) c A _ fun vs G2 H2 s A2 p => ⟨i, G2, F, x, dx, vs, by rw [List.append_nil], A2, hx, h1 _ _ s p, fun G' H' fl s3 A3 hf => kk G' H' fl (s.trans s3) A3 hf⟩⟩
theorem ea3 {α β γ : Type} {R : Rel α} {S : Rel β} {U : Rel γ} [Mn R] [Mn S] [Mn U] {σ : L2.St} {G L : Hp} {ta tb tc : TE} {x : α} {y : β} {z : γ} (h1 : Ev ta σ G L R x) (h2 : Ev tb σ G L S y) (h3 : Ev tc σ G L U z) :
    EvA (tCons ta (tCons tb (tCons tc tNil))) σ G L (fun G' vs => ∃ v1 v2 v3, vs = [v1, v2, v3] ∧ R G' v1 x ∧ S G' v2 y ∧ U G' v3 z) :=
  (ea_cons h1 (ea_cons h2 (ea_cons h3 ea_nil))).imp fun _ _ ⟨v1, r1, e1, q1, v2, r2, e2, q2, v3, r3, e3, q3, e4⟩ => ⟨v1, v2, v3, by rw [e1, e2, e3, e4], q1, q2, q3⟩
theorem ea2 {α β : Type} {R : Rel α} {S : Rel β} [Mn R] [Mn S] {σ : L2.St} {G L : Hp} {ta tb : TE} {x : α} {y : β} (h1 : Ev ta σ G L R x) (h2 : Ev tb σ G L S y) :
    EvA (tCons ta (tCons tb tNil)) σ G L (fun G' vs => ∃ v1 v2, vs = [v1, v2] ∧ R G' v1 x ∧ S G' v2 y) :=
  (ea_cons h1 (ea_cons h2 ea_nil)).imp fun _ _ ⟨v1, r1, e1, q1, v2, r2, e2, q2, e4⟩ => ⟨v1, v2, by rw [e1, e2, e4], q1, q2⟩
theorem ea1 {α : Type} {R : Rel α} [Mn R] {σ : L2.St} {G L : Hp} {ta : TE} {x : α} (h1 : Ev ta σ G L R x) : EvA (tCons ta tNil) σ G L (fun G' vs => ∃ v1, vs = [v1] ∧ R G' v1 x) :=
  (ea_cons h1 ea_nil).imp fun _ _ ⟨v1, r1, e1, q1, e4⟩ => ⟨v1, by rw [e1, e4], q1⟩
theorem ea4 {α β γ δ : Type} {R : Rel α} {S : Rel β} {U : Rel γ} {V' : Rel δ} [Mn R] [Mn S] [Mn U] [Mn V'] {σ : L2.St} {G L : Hp} {ta tb tc td : TE} {x : α} {y : β} {z : γ} {u : δ} (h1 : Ev ta σ G L R x) (h2 : Ev tb σ G L S y) (h3 : Ev tc σ G L U z) (h4 : Ev td σ G L V' u) :
    EvA (tCons ta (tCons tb (tCons tc (tCons td tNil)))) σ G L (fun G' vs => ∃ v1 v2 v3 v4, vs = [v1, v2, v3, v4] ∧ R G' v1 x ∧ S G' v2 y ∧ U G' v3 z ∧ V' G' v4 u) :=
  (ea_cons h1 (ea_cons h2 (ea_cons h3 (ea_cons h4 ea_nil)))).imp fun _ _ ⟨v1, r1, e1, q1, v2, r2, e2, q2, v3, r3, e3, q3, v4, r4, e4, q4, e5⟩ => ⟨v1, v2, v3, v4, by rw [e1, e2, e3, e4, e5], q1, q2, q3, q4⟩

abbrev sTableInit : Stmt := inClass (top 16) 0
abbrev nTableInit : List Str := ["self", "prime", "wide", "rows", "index", "row"]
abbrev pTableInit : List Str := ["self", "prime", "wide", "rows"]
theorem scTableInit : FnScope nTableInit pTableInit (defScope sTableInit) := ⟨rfl, rfl, rfl, by decide +kernel, rfl, by decide +kernel, by decide +kernel⟩
def okTab (d : TabD) : Prop := isP d.p = true ∧ d.wide ≤ 12 ∧ d.rows.length ≤ 12 ∧ ∀ r ∈ d.rows, Wr d.p d.wide r
theorem ok_TableInit (T : Txt K mg a) (h : HasM K a.Tb "__init__" "Table.__init__" sTableInit pTableInit) (G_is_prime : Fd P w K mg base CX0 "is_prime" pIsPrime 2 (spIsPrime K)) (G_is_number : Fd P w K mg base CX0 "is_number" pIsNumber 3 (spIsNumber K)) (G_is_column : Fd P w K mg base CX0 "is_column" pIsColumn 4 (spIsColumn K))
    (G_keep : Md P w K mg base CX0 a.Tb "keep" pTableKeep 1 (SpI a.Tb (preTab K) (fsTab K))) : Md P w K mg base CX0 a.Tb "__init__" pTableInit 5 (SpI a.Tb (fun d G ws => preTab K d G ws ∧ okTab d) (fsTab K)) := by
  refine h.ok scTableInit (fun vs H Q E h => ?_) (fun f cdv A outer s H vs Q E hr h => ?_)
  · obtain ⟨i, G, F, x, dx, ws, rfl, _, _, ⟨⟨v1, v2, v3, rfl, _⟩, _⟩, _⟩ := h
    rfl
  · obtain ⟨d, G, F, x, dx, ws, rfl, hA, hx, ⟨⟨v1, v2, v3, rfl, r1, r2, r3⟩, hp, hw, hl, hrow⟩, k⟩ := h
    have nd := scTableInit.nd
    refine ⟨_, (pss_cons (ps_if (pt_not (pt_val (pe_fd G_is_prime (hr.mono (by decide)) (by rfl) (pa_cons (pv 1) pa_nil))))
        (pss_one ps_never)
        pss_nil)
      (pss_cons (ps_if (pt_not (pt_val (pe_fd G_is_number (hr.mono (by decide)) (by rfl) (pa_cons (pv 2) (pa_cons (pe_gint (by rfl) T.MOST) pa_nil)))))
        (pss_one ps_never)
        pss_nil)
      (pss_cons (ps_if (PW.pt (pw_or (pt_not (pt_val (pe_callB call_isi (by rfl) T.bisinstance (by decide +kernel) (pa_cons (pv 3) (pa_cons (pe_bltn (v := .ty "tuple") (by rfl) T.btuple (by decide +kernel) rfl) pa_nil))))) (pw_or1 (pt_cmpR op_gt (pe_callB call_len_seq (by rfl) T.blen PySem.boot_len (pa_cons (pv 3) pa_nil)) (pe_gint (by rfl) T.MOST) (nomark _)))))
        (pss_one ps_never)
        pss_nil)
      (pss_cons (ps_for PassesOwn.never rfl (pi_enumT (by rfl) T.benumerate (pa_cons (pv 3) pa_nil)) (pg_tup rfl (pgs_cons (pg_name (i := 4) nd rfl (by first | exact Or.inl rfl | exact Or.inr rfl)) (pgs_cons (pg_name (i := 5) nd rfl (by first | exact Or.inl rfl | exact Or.inr rfl)) pgs_nil)))
        (pss_one (ps_if (pt_not (pt_val (pe_fd G_is_column (hr.mono (by decide)) (by rfl) (pa_cons (pv 1) (pa_cons (pv 2) (pa_cons (pv 5) pa_nil))))))
          (pss_one ps_never)
          pss_nil)))
      (pss_one (ps_expr (pe_md (pv 0) T.cTb.cl G_keep (hr.mono (by decide)) (pa_cons (pv 1) (pa_cons (pv 2) (pa_cons (pv 3) pa_nil)))))))))), ?_⟩
    refine s_no (L := no) hA no_sub ((et_not (et_B (b := true) ((ev_call (R := RB) d.p (ea1 (R := RI) (x := d.p) (ev_var rfl r1)) (fun G' vs s q => q) fun _ _ _ q => q).is hp))).is rfl) fun G1 H1 s1 A1 => ?_
    refine s_no (L := no) A1 no_sub ((et_not (et_B (b := true) ((ev_isNumber (Ev.ro (ev_var (R := RN) (x := d.wide) rfl (mn s1 r2)).ni) (ev_i (n := 12))).is (inR_nat (by omega))))).is rfl) fun G2 H2 s2 A2 => ?_
    have r3' := mn (s1.trans s2) r3
    refine s_no (L := no) A2 no_sub ((et_or (a := false) (b := false) ((et_not (et_B (b := true) (ev_isTup (ev_var rfl r3')))).is rfl) fun _ => et_test ((ev_cmp (f := fun i j => decide (j < i)) (ev_lenT (ev_var rfl r3')) (ev_i (n := 12))).is (by simp; omega))).is rfl) fun G3 H3 s3 A3 => ?_
    have r2' := mn ((s1.trans s2).trans s3) r2
    refine s_for (L := no) A3 no_sub (ei_enumT (ev_var (R := RT K (RT K RI)) rfl (mn s3 r3'))) (fun i σ G' F' => F' = F ∧ Same G3 G' ∧ ∃ u1 u2, σ = [some (.ref x), some v1, some v2, some v3, u1, u2]) (fun G' s => ⟨rfl, s, none, none, rfl⟩) (fun _ _ _ _ _ => no_sub) ?_ ?_
    · rintro G0 s0 i v σ' G' F' H' hi ⟨rfl, s4, u1, u2, rfl⟩ G'' s5 s6 A4 ⟨r, er, b, w1, w2, e1, e2, e3, e4⟩
      refine ⟨b, [w1, w2], e1, sqtS A4.g e2, rfl, w1, [w2], rfl, w2, [], rfl, rfl, ?_⟩
      refine s_no (L := no) A4 no_sub ((et_not (et_B (b := true) (ev_call (R := RB) (d.p, d.wide, r) (ea3 (G := G'') (R := RI) (x := d.p) (ev_var rfl r1) (ev_var (R := RN) rfl r2') (ev_var (R := RT K RI) rfl e4)) (fun G' vs s ⟨z1, z2, z3, z4, z5, z6, z7⟩ => ⟨z1, z2, z3, z4, z5, z6, z7, hrow r (List.mem_of_getElem? er), by dsimp only; omega⟩) fun _ _ _ q => q))).is rfl) fun G5 H5 s7 A5 => ?_
      exact ⟨G5, F', s6.trans s7, A5, rfl, (s4.trans s5).trans s7, _, _, rfl⟩
    · rintro σ' G' F' H' s4 A4 ⟨rfl, s5, u1, u2, rfl⟩
      refine s_meth (L := no) A4 no_sub rfl hx (ea3 (R := RI) (x := d.p) (S := RN) (U := RT K (RT K RI)) (ev_var rfl r1) (ev_var rfl (mn s5 r2')) (ev_var rfl (mn (s3.trans s5) r3'))) d (fun G' vs s q => q) fun G6 H6 fl s6 A6 hf => ?_
      exact k G6 H6 fl (((s1.trans s2).trans s3).trans (s4.trans s6)) A6 hf

abbrev sRawTableInit : Stmt := inClass (top 17) 0
abbrev nRawTableInit : List Str := ["self", "prime", "wide", "rows"]
abbrev pRawTableInit : List Str := ["self", "prime", "wide", "rows"]
theorem scRawTableInit : FnScope nRawTableInit pRawTableInit (defScope sRawTableInit) := ⟨rfl, rfl, rfl, by decide +kernel, rfl, by decide +kernel, by decide +kernel⟩
theorem ok_RawTableInit (T : Txt K mg a) (h : HasM K a.RTb "__init__" "RawTable.__init__" sRawTableInit pRawTableInit) (G_keep : Md P w K mg base CX0 a.RTb "keep" pTableKeep 1 (SpI a.RTb (preTab K) (fsTab K))) : Md P w K mg base CX0 a.RTb "__init__" pRawTableInit 2 (SpI a.RTb (preTab K) (fsTab K)) := by
  refine h.ok scRawTableInit (fun vs H Q E h => ?_) (fun f cdv A outer s H vs Q E hr h => ?_)
  · obtain ⟨i, G, F, x, dx, ws, rfl, _, _, ⟨v1, v2, v3, rfl, _⟩, _⟩ := h
    rfl
  · obtain ⟨d, G, F, x, dx, ws, rfl, hA, hx, ⟨v1, v2, v3, rfl, r1, r2, r3⟩, k⟩ := h
    have nd := scRawTableInit.nd
    refine ⟨_, (pss_one (ps_expr (pe_md (pv 0) T.cRTb.cl G_keep (hr.mono (by decide)) (pa_cons (pv 1) (pa_cons (pv 2) (pa_cons (pv 3) pa_nil)))))), ?_⟩
    exact s_meth (L := no) hA no_sub rfl hx (ea3 (R := RI) (x := d.p) (S := RN) (U := RT K (RT K RI)) (ev_var rfl r1) (ev_var rfl r2) (ev_var rfl r3)) d (fun G' vs s q => q) fun G6 H6 fl s6 A6 hf => k G6 H6 fl s6 A6 hf
/-- RawTable(p, wide, rows) -/
theorem ev_raw (d : TabD) {σ : L2.St} {G L : Hp} {ta tb tc : TE} {E : XK} (h1 : Ev ta σ G L RI d.p) (h2 : Ev tb σ G L RN d.wide) (h3 : Ev tc σ G L (RT K (RT K RI)) d.rows) : Ev (tMake a.RTb (SpI a.RTb (preTab K) (fsTab K)) [] E (tCons ta (tCons tb (tCons tc tNil)))) σ G L (RTab K a) d :=
  ev_mk d (ea3 h1 h2 h3) (fun G' vs s q => q) (fun _ _ _ s q => fsTab_mn s q) fun G' x dx fl s ⟨e1, e2, e3, r, e4, e5⟩ hx => ⟨x, _, dx, fl, r, rfl, .inr rfl, hx, e1, e2, e3, e4, e5⟩
end
end MW

set_option Elab.async false
set_option linter.all false
set_option maxRecDepth 100000
set_option maxHeartbeats 4000000
/-! Walks: columns, tables beside and beneath, clearing. -/
namespace MW
open PySem PySem.Spec PyProof.Rows L2
section
variable {P : Program} {w : World} {K : Fg} {mg : Str → Option Value} {base : Heap} {a : Adr}

/-! less -/
-- 0 prime 1 row 2 by 3 other 4 one 5 two; cells by prime
abbrev sLess : Stmt := top 23
abbrev nLess : List Str := ["prime", "row", "by", "other", "one", "two"]
abbrev pLess : List Str := ["prime", "row", "by", "other"]
theorem scLess : FnScope nLess pLess (defScope sLess) := ⟨rfl, rfl, rfl, by decide +kernel, rfl, by decide +kernel, by decide +kernel⟩
def spLess (K : Fg) : Sp := SpP (ι := Int × List Int × Int × List Int)
  (fun i G vs => ∃ v1 v2 v3 v4, vs = [v1, v2, v3, v4] ∧ RI G v1 i.1 ∧ RT K RI G v2 i.2.1 ∧ RI G v3 i.2.2.1 ∧ RT K RI G v4 i.2.2.2 ∧ 0 < i.1 ∧ i.2.1.length = i.2.2.2.length ∧ i.2.1.length ≤ 1000 ∧ 0 ≤ i.2.2.1 ∧ i.2.2.1 < 1000)
  (fun i G v => RT K RI G v (lessR i.1 i.2.1 i.2.2.1 i.2.2.2))
theorem ok_Less (T : Txt K mg a) (h : Has K mg "less" sLess pLess) : Fd P w K mg base CX0 "less" pLess 1 (spLess K) := by
  refine h.ok scLess (fun vs H Q E h => ?_) (fun f cdv A outer s H vs Q E hr h => ?_)
  · obtain ⟨i, G, F, _, ⟨v1, v2, v3, v4, rfl, _⟩, _⟩ := h
    rfl
  · obtain ⟨⟨p, r, b, o⟩, G, F, hA, ⟨v1, v2, v3, v4, rfl, r1, r2, r3, r4, hp, hl, hz, hb0, hb1⟩, k⟩ := h
    dsimp only at hp hl hz hb0 hb1 r1 r2 r3 r4
    have nd := scLess.nd
    refine ⟨_, (pss_one (ps_ret (pe_callTy (k_tuple (K := K) rfl) (by rfl) T.btuple (by decide +kernel) (pa_cons (pe_lc (own := [("one", 4), ("two", 5)]) (g := (gTup K 2 (gCons (gName 4) (gCons (gName 5) gNil)))) (tt := tYes) rfl nd (k_zip (K := K) rfl (by rfl) T.bzip (pa_cons (pv 1) (pa_cons (pv 3) pa_nil))) (blkOk_by (N := nLess) (sc := defScope sLess) (by decide +kernel)) (fun _ _ _ _ _ => (k_tup (K := K) rfl rfl (pgs_cons (pg_name (i := 4) nd rfl (by first | exact Or.inl rfl | exact Or.inr rfl)) (pgs_cons (pg_name (i := 5) nd rfl (by first | exact Or.inl rfl | exact Or.inr rfl)) pgs_nil)))) (fun _ _ _ _ _ => pts_nil) (fun _ _ _ _ _ => (pe_op op_modN (pe_op op_sub (pv 4) (pe_op op_mul (pv 2) (pv 5))) (pv 0)))) pa_nil)))), ?_⟩
    refine s_ret (L := no) hA no_sub (R := RT K RI) (x := lessR p r b o) (ev_tupL ?_) fun v G' H' s A r => k v G' H' s A r
    refine (EvF.ev (ef_lc2 (n := r.length) (f := fun i => some ((ix r i - b * ix o i) % p)) (R1 := RI) (R2 := RI) (D := fun k x => k < r.length ∧ x.1 = ix r k ∧ x.2 = ix o k) (ei_zipT (ev_var rfl r2) (ev_var rfl r4) (by rw [hl]; omega)) (by omega) ?_ ?_ ?_)).is ?_
    · rintro k' v' G'' ⟨x, y, h1, h2, h3⟩
      have q1 := (List.getElem?_eq_some_iff.mp h1).1
      rw [ix_some q1] at h1
      rw [ix_some (by omega)] at h2
      cases h1
      cases h2
      exact ⟨_, ⟨q1, rfl, rfl⟩, h3⟩
    · intros
      exact et_yes
    · rintro k' ⟨x1, x2⟩ w1 w2 G'' y hk s ⟨_, e1, e2⟩ q1 q2 e
      cases e
      cases e1
      cases e2
      refine ev_mod (ev_sub (ev_var rfl q1) (ev_mul (ev_var rfl (mn s r3)) (ev_var rfl q2) ?_)) (ev_var rfl (mn s r1)) hp
      exact .inl ⟨by omega, by omega⟩
    · rw [filterMap_some]
      refine List.ext_getElem (by simp [lessR]; omega) fun j h1 h2 => ?_
      have hj : j < r.length := by simpa using h1
      simp only [List.getElem_map, List.getElem_range, lessR, List.getElem_zipWith]
      rw [ix_get hj, ix_get (by omega)]

/-! columns_of -/
-- 0 table 1 at 2 row; cells table
abbrev sColumnsOf : Stmt := top 18
abbrev nColumnsOf : List Str := ["table", "at", "row"]
abbrev pColumnsOf : List Str := ["table"]
theorem scColumnsOf : FnScope nColumnsOf pColumnsOf (defScope sColumnsOf) := ⟨rfl, rfl, rfl, by decide +kernel, rfl, by decide +kernel, by decide +kernel⟩
def Rect (d : TabD) : Prop := (∀ r ∈ d.rows, r.length = d.wide) ∧ d.wide ≤ 1000 ∧ d.rows.length ≤ 1000
def spColumnsOf (K : Fg) (a : Adr) : Sp := SpP (ι := TabD) (fun i G vs => ∃ v1, vs = [v1] ∧ RTab K a G v1 i ∧ Rect i) (fun i G v => RT K (RT K RI) G v (tr i.wide i.rows))
theorem ok_ColumnsOf (T : Txt K mg a) (h : Has K mg "columns_of" sColumnsOf pColumnsOf) : Fd P w K mg base CX0 "columns_of" pColumnsOf 1 (spColumnsOf K a) := by
  refine h.ok scColumnsOf (fun vs H Q E h => ?_) (fun f cdv A outer s H vs Q E hr h => ?_)
  · obtain ⟨i, G, F, _, ⟨v1, rfl, _⟩, _⟩ := h
    rfl
  · obtain ⟨d, G, F, hA, ⟨v1, rfl, r1, hrow, hw, hl⟩, k⟩ := h
    have nd := scColumnsOf.nd
    refine ⟨_, (pss_one (ps_ret (pe_callTy (k_tuple (K := K) rfl) (by rfl) T.btuple (by decide +kernel) (pa_cons (pe_lc (own := [("at", 1)]) (g := (gName 1)) (tt := tYes) rfl nd (pi_range1 (by rfl) T.brange (pa_cons (k_fld (K := K) rfl (pv 0) rfl) pa_nil)) (blkOk_by (N := nColumnsOf) (sc := defScope sColumnsOf) (by decide +kernel)) (fun _ _ _ _ _ => (pg_name (i := 1) nd rfl (by first | exact Or.inl rfl | exact Or.inr rfl))) (fun _ _ _ _ _ => pts_nil) (fun _ _ _ _ _ => (pe_callTy (k_tuple (K := K) rfl) (by rfl) T.btuple (by decide +kernel) (pa_cons (pe_lc (own := [("row", 2)]) (g := (gName 2)) (tt := tYes) rfl nd (k_seq (K := K) rfl (k_fld (K := K) rfl (pv 0) rfl)) (blkOk_by (N := nColumnsOf) (sc := (relS _ (defScope sColumnsOf))) (by decide +kernel)) (fun _ _ _ _ _ => (pg_name (i := 2) nd rfl (by first | exact Or.inl rfl | exact Or.inr rfl))) (fun _ _ _ _ _ => pts_nil) (fun _ _ _ _ _ => (pe_ix (k_ix (K := K) rfl) (pv 2) (pv 1) (fun _ _ => rfl)))) pa_nil)))) pa_nil)))), ?_⟩
    refine s_ret (L := no) hA no_sub (R := RT K (RT K RI)) (x := tr d.wide d.rows) (ev_tupL (EvF.ev (ef_lcR (ev_tWide T (ev_var rfl r1)) (by omega) (fun c => d.rows.map fun r => ix r c) fun c v G' hc s q => ?_))) fun v G' H' s A q => k v G' H' s A q
    cases q
    refine ev_tupL (EvF.ev (ef_lcX (ei_seqT (ev_tRows T (ev_var rfl (mn s r1)))) (fun r => ix r c) (by omega) fun r u G2 hr' s2 q2 => ?_))
    exact ev_ixT (n := c) (ev_var rfl q2) (ev_var (R := RN) (x := c) rfl rfl).ni rfl (ix_some (by rw [hrow r hr']; exact hc))

/-! columns_table -/
-- 0 prime 1 high 2 columns 3 rows 4 at 5 column; cells columns
abbrev sColumnsTable : Stmt := top 19
abbrev nColumnsTable : List Str := ["prime", "high", "columns", "rows", "at", "column"]
abbrev pColumnsTable : List Str := ["prime", "high", "columns"]
theorem scColumnsTable : FnScope nColumnsTable pColumnsTable (defScope sColumnsTable) := ⟨rfl, rfl, rfl, by decide +kernel, rfl, by decide +kernel, by decide +kernel⟩
def spColumnsTable (K : Fg) (a : Adr) : Sp := SpP (ι := Int × Nat × List (List Int)) (fun i G vs => ∃ v1 v2 v3, vs = [v1, v2, v3] ∧ RI G v1 i.1 ∧ RN G v2 i.2.1 ∧ RT K (RT K RI) G v3 i.2.2 ∧ (∀ r ∈ i.2.2, r.length = i.2.1) ∧ i.2.1 ≤ 1000 ∧ i.2.2.length ≤ 1000)
  (fun i G v => RTab K a G v ⟨i.1, i.2.2.length, tr i.2.1 i.2.2⟩)
theorem ok_ColumnsTable (T : Txt K mg a) (h : Has K mg "columns_table" sColumnsTable pColumnsTable) (G_RawTable : Md P w K mg base CX0 a.RTb "__init__" pRawTableInit 2 (SpI a.RTb (preTab K) (fsTab K))) : Fd P w K mg base CX0 "columns_table" pColumnsTable 4 (spColumnsTable K a) := by
  refine h.ok scColumnsTable (fun vs H Q E h => ?_) (fun f cdv A outer s H vs Q E hr h => ?_)
  · obtain ⟨i, G, F, _, ⟨v1, v2, v3, rfl, _⟩, _⟩ := h
    rfl
  · obtain ⟨⟨p, n, cols⟩, G, F, hA, ⟨v1, v2, v3, rfl, r1, r2, r3, hrow, hn, hl⟩, k⟩ := h
    dsimp only at r1 r2 r3 hrow hn hl
    cases r1
    cases r2
    have nd := scColumnsTable.nd
    refine ⟨_, (pss_cons (ps_setLc (i := 3) (own := [("at", 4)]) (g := (gName 4)) (tt := tYes) rfl nd rfl rfl (sw_true rfl rfl rfl (by decide +kernel)) (pi_range1 (by rfl) T.brange (pa_cons (pv 1) pa_nil)) (blkOk_by (N := nColumnsTable) (sc := defScope sColumnsTable) (by decide +kernel)) (fun _ _ _ _ _ => (pg_name (i := 4) nd rfl (by first | exact Or.inl rfl | exact Or.inr rfl))) (fun _ _ _ _ _ => pts_nil) (fun _ _ _ _ _ => (pe_callTy (k_tuple (K := K) rfl) (by rfl) T.btuple (by decide +kernel) (pa_cons (pe_lc (own := [("column", 5)]) (g := (gName 5)) (tt := tYes) rfl nd (k_seq (K := K) rfl (pv 2)) (blkOk_by (N := nColumnsTable) (sc := (relS _ (defScope sColumnsTable))) (by decide +kernel)) (fun _ _ _ _ _ => (pg_name (i := 5) nd rfl (by first | exact Or.inl rfl | exact Or.inr rfl))) (fun _ _ _ _ _ => pts_nil) (fun _ _ _ _ _ => (pe_ix (k_ix (K := K) rfl) (pv 5) (pv 4) (fun _ _ => rfl)))) pa_nil))))
      (pss_one (ps_ret (pe_mk T.cRTb G_RawTable (hr.mono (by decide)) (by rfl) (pa_cons (pv 0) (pa_cons (pe_callB (k_len (K := K) rfl) (by rfl) T.blen PySem.boot_len (pa_cons (pv 2) pa_nil)) (pa_cons (pe_callTy (k_tuple (K := K) rfl) (by rfl) T.btuple (by decide +kernel) (pa_cons (pv 3) pa_nil)) pa_nil))))))), ?_⟩
    refine s_asg (L := no) hA no_sub (R := RL K (RT K RI)) (x := tr n cols) (EvF.ev (ef_lcR (ev_var (R := RN) rfl rfl) (by omega) (fun c => cols.map fun r => ix r c) fun c v G' hc s q => ?_)) fun v4 G1 H1 s1 A1 r4 => ?_
    · cases q
      refine ev_tupL (EvF.ev (ef_lcX (ei_seqT (ev_var rfl (mn s r3))) (fun r => ix r c) (by omega) fun r u G2 hr' s2 q2 => ?_))
      exact ev_ixT (n := c) (ev_var rfl q2) (ev_var (R := RN) (x := c) rfl rfl).ni rfl (ix_some (by rw [hrow r hr']; exact hc))
    · exact s_ret (L := no) A1 no_sub (R := RTab K a) (x := ⟨p, cols.length, tr n cols⟩) (ev_raw _ (ev_var (R := RI) rfl rfl) ((ev_lenT (ev_var rfl (mn s1 r3))).inn rfl) (ev_tupL (ev_var rfl r4))) fun v G' H' s A q => k v G' H' (s1.trans s) A q

/-! turned_about -/
-- 0 table; cells 
abbrev sTurnedAbout : Stmt := top 20
abbrev nTurnedAbout : List Str := ["table"]
abbrev pTurnedAbout : List Str := ["table"]
theorem scTurnedAbout : FnScope nTurnedAbout pTurnedAbout (defScope sTurnedAbout) := ⟨rfl, rfl, rfl, by decide +kernel, rfl, by decide +kernel, by decide +kernel⟩
def spTurnedAbout (K : Fg) (a : Adr) : Sp := SpP (ι := TabD) (fun i G vs => ∃ v1, vs = [v1] ∧ RTab K a G v1 i ∧ Rect i) (fun i G v => RTab K a G v ⟨i.p, i.rows.length, tr i.wide i.rows⟩)
theorem ok_TurnedAbout (T : Txt K mg a) (h : Has K mg "turned_about" sTurnedAbout pTurnedAbout) (G_RawTable : Md P w K mg base CX0 a.RTb "__init__" pRawTableInit 2 (SpI a.RTb (preTab K) (fsTab K))) (G_columns_of : Fd P w K mg base CX0 "columns_of" pColumnsOf 1 (spColumnsOf K a)) : Fd P w K mg base CX0 "turned_about" pTurnedAbout 4 (spTurnedAbout K a) := by
  refine h.ok scTurnedAbout (fun vs H Q E h => ?_) (fun f cdv A outer s H vs Q E hr h => ?_)
  · obtain ⟨i, G, F, _, ⟨v1, rfl, _⟩, _⟩ := h
    rfl
  · obtain ⟨d, G, F, hA, ⟨v1, rfl, r1, hd⟩, k⟩ := h
    have nd := scTurnedAbout.nd
    refine ⟨_, (pss_one (ps_ret (pe_mk T.cRTb G_RawTable (hr.mono (by decide)) (by rfl) (pa_cons (k_fld (K := K) rfl (pv 0) rfl) (pa_cons (k_fld (K := K) rfl (pv 0) rfl) (pa_cons (pe_fd G_columns_of (hr.mono (by decide)) (by rfl) (pa_cons (pv 0) pa_nil)) pa_nil)))))), ?_⟩
    exact s_ret (L := no) hA no_sub (R := RTab K a) (x := ⟨d.p, d.rows.length, tr d.wide d.rows⟩) (ev_raw ⟨d.p, d.rows.length, tr d.wide d.rows⟩ (ev_tPrime T (d := d) (ev_var rfl r1)) (ev_tHigh T (d := d) (ev_var rfl r1)) (ev_call d (ea1 (ev_var (R := RTab K a) rfl r1)) (fun G' vs s ⟨v, e, q⟩ => ⟨v, e, q, hd⟩) fun _ _ _ q => q)) fun v G' H' s A q => k v G' H' s A q

/-! beside_rows -/
-- 0 tables 1 prime 2 high 3 rows 4 at 5 table; cells tables
abbrev sBesideRows : Stmt := top 21
abbrev nBesideRows : List Str := ["tables", "prime", "high", "rows", "at", "table"]
abbrev pBesideRows : List Str := ["tables", "prime", "high"]
theorem scBesideRows : FnScope nBesideRows pBesideRows (defScope sBesideRows) := ⟨rfl, rfl, rfl, by decide +kernel, rfl, by decide +kernel, by decide +kernel⟩
def besideR (high : Nat) (ts : List TabD) : List (List Int) := (List.range high).map fun c => (ts.map fun t => ro t.rows c).flatten
def spBesideRows (K : Fg) (a : Adr) : Sp := SpP (ι := List TabD × Int × Nat) (fun i G vs => ∃ v1 v2 v3, vs = [v1, v2, v3] ∧ RL K (RTab K a) G v1 i.1 ∧ RI G v2 i.2.1 ∧ RN G v3 i.2.2 ∧ (∀ t ∈ i.1, t.rows.length = i.2.2 ∧ Rect t ∧ t.wide ≤ 1000) ∧ i.2.2 ≤ 1000 ∧ i.1.length ≤ 1000)
  (fun i G v => RTab K a G v ⟨i.2.1, (i.1.map TabD.wide).sum, besideR i.2.2 i.1⟩)
theorem sum_nat : ∀ ns : List Nat, (ns.map fun (n : Nat) => (n : Int)).sum = ((ns.sum : Nat) : Int)
  | [] => rfl
  | n :: ns => by rw [List.map_cons, List.sum_cons, List.sum_cons, sum_nat ns]; omega
theorem sum_le {α : Type} (f : α → Nat) (b : Nat) : ∀ l : List α, (∀ x ∈ l, f x ≤ b) → (l.map f).sum ≤ l.length * b
  | [], _ => by simp
  | x :: l, h => by
    rw [List.map_cons, List.sum_cons, List.length_cons, Nat.succ_mul]
    have h1 := h x List.mem_cons_self
    have h2 := sum_le f b l fun y hy => h y (List.mem_cons_of_mem _ hy)
    omega
theorem ok_BesideRows (T : Txt K mg a) (h : Has K mg "beside_rows" sBesideRows pBesideRows) (G_RawTable : Md P w K mg base CX0 a.RTb "__init__" pRawTableInit 2 (SpI a.RTb (preTab K) (fsTab K))) : Fd P w K mg base CX0 "beside_rows" pBesideRows 4 (spBesideRows K a) := by
  refine h.ok scBesideRows (fun vs H Q E h => ?_) (fun f cdv A outer s H vs Q E hr h => ?_)
  · obtain ⟨i, G, F, _, ⟨v1, v2, v3, rfl, _⟩, _⟩ := h
    rfl
  · obtain ⟨⟨ts, p, n⟩, G, F, hA, ⟨v1, v2, v3, rfl, r1, r2, r3, ht, hn, hl⟩, k⟩ := h
    dsimp only at r1 r2 r3 ht hn hl
    cases r2
    cases r3
    have nd := scBesideRows.nd
    refine ⟨_, (pss_cons (ps_setLc (i := 3) (own := [("at", 4)]) (g := (gName 4)) (tt := tYes) rfl nd rfl rfl (sw_true rfl rfl rfl (by decide +kernel)) (pi_range1 (by rfl) T.brange (pa_cons (pv 2) pa_nil)) (blkOk_by (N := nBesideRows) (sc := defScope sBesideRows) (by decide +kernel)) (fun _ _ _ _ _ => (pg_name (i := 4) nd rfl (by first | exact Or.inl rfl | exact Or.inr rfl))) (fun _ _ _ _ _ => pts_nil) (fun _ _ _ _ _ => (pe_callB (k_sumT (K := K) rfl rfl) (by rfl) T.bsum (by decide +kernel) (pa_cons (pe_lc (own := [("table", 5)]) (g := (gName 5)) (tt := tYes) rfl nd (k_seq (K := K) rfl (pv 0)) (blkOk_by (N := nBesideRows) (sc := (relS _ (defScope sBesideRows))) (by decide +kernel)) (fun _ _ _ _ _ => (pg_name (i := 5) nd rfl (by first | exact Or.inl rfl | exact Or.inr rfl))) (fun _ _ _ _ _ => pts_nil) (fun _ _ _ _ _ => (pe_ix (k_ix (K := K) rfl) (k_fld (K := K) rfl (pv 5) rfl) (pv 4) (fun _ _ => rfl)))) (pa_cons (pe_tup pa_nil) pa_nil)))))
      (pss_one (ps_ret (pe_mk T.cRTb G_RawTable (hr.mono (by decide)) (by rfl) (pa_cons (pv 1) (pa_cons (pe_callB (k_sum (K := K) rfl rfl) (by rfl) T.bsum (by decide +kernel) (pa_cons (pe_lc (own := [("table", 5)]) (g := (gName 5)) (tt := tYes) rfl nd (k_seq (K := K) rfl (pv 0)) (blkOk_by (N := nBesideRows) (sc := defScope sBesideRows) (by decide +kernel)) (fun _ _ _ _ _ => (pg_name (i := 5) nd rfl (by first | exact Or.inl rfl | exact Or.inr rfl))) (fun _ _ _ _ _ => pts_nil) (fun _ _ _ _ _ => (k_fld (K := K) rfl (pv 5) rfl))) pa_nil)) (pa_cons (pe_callTy (k_tuple (K := K) rfl) (by rfl) T.btuple (by decide +kernel) (pa_cons (pv 3) pa_nil)) pa_nil))))))), ?_⟩
    refine s_asg (L := no) hA no_sub (R := RL K (RT K RI)) (x := besideR n ts) (EvF.ev (ef_lcR (ev_var (R := RN) rfl rfl) (by omega) (fun c => (ts.map fun t => ro t.rows c).flatten) fun c v G' hc s q => ?_)) fun v4 G1 H1 s1 A1 r4 => ?_
    · cases q
      refine ev_sumT (EvF.ev (ef_lcX (ei_seqL (ev_var rfl (mn s r1))) (fun t => ro t.rows c) (by omega) fun t u G2 ht' s2 q2 => ?_)) ?_
      · have h1 := (ht t ht').1
        exact ev_ixT (n := c) (ev_tRows T (ev_var rfl q2)) (ev_var (R := RN) (x := c) rfl rfl).ni rfl (by rw [ro_get (by omega)]; simp)
      · rw [List.map_map]
        refine Nat.le_trans (sum_le _ 1000 ts fun t ht' => ?_) (Nat.le_trans (Nat.mul_le_mul_right 1000 hl) (by decide))
        obtain ⟨h1, ⟨h2, _⟩, h3⟩ := ht t ht'
        show (ro t.rows c).length ≤ 1000
        rw [h2 _ (ro_mem (by omega))]
        exact h3
    · refine s_ret (L := no) A1 no_sub (R := RTab K a) (x := ⟨p, (ts.map TabD.wide).sum, besideR n ts⟩) (ev_raw ⟨p, (ts.map TabD.wide).sum, besideR n ts⟩ (ev_var (R := RI) rfl rfl) ((ev_sum (K := K) (ns := ts.map fun t => (t.wide : Int)) (EvF.ev (ef_lcX (S := RI) (ei_seqL (ev_var rfl (mn s1 r1))) (fun t => (t.wide : Int)) (by omega) fun t u G2 ht' s2 q2 => (ev_tWide T (ev_var rfl q2)).ni))).inn ?_) (ev_tupL (ev_var rfl r4))) fun v G' H' s A q => k v G' H' (s1.trans s) A q
      rw [← sum_nat, List.map_map]
      rfl

/-! beneath_rows -/
-- 0 tables 1 prime 2 wide 3 table; cells 
abbrev sBeneathRows : Stmt := top 22
abbrev nBeneathRows : List Str := ["tables", "prime", "wide", "table"]
abbrev pBeneathRows : List Str := ["tables", "prime", "wide"]
theorem scBeneathRows : FnScope nBeneathRows pBeneathRows (defScope sBeneathRows) := ⟨rfl, rfl, rfl, by decide +kernel, rfl, by decide +kernel, by decide +kernel⟩
def spBeneathRows (K : Fg) (a : Adr) : Sp := SpP (ι := List TabD × Int × Nat) (fun i G vs => ∃ v1 v2 v3, vs = [v1, v2, v3] ∧ RL K (RTab K a) G v1 i.1 ∧ RI G v2 i.2.1 ∧ RN G v3 i.2.2 ∧ (∀ t ∈ i.1, t.rows.length ≤ 1000) ∧ i.1.length ≤ 1000)
  (fun i G v => RTab K a G v ⟨i.2.1, i.2.2, (i.1.map TabD.rows).flatten⟩)
theorem ok_BeneathRows (T : Txt K mg a) (h : Has K mg "beneath_rows" sBeneathRows pBeneathRows) (G_RawTable : Md P w K mg base CX0 a.RTb "__init__" pRawTableInit 2 (SpI a.RTb (preTab K) (fsTab K))) : Fd P w K mg base CX0 "beneath_rows" pBeneathRows 4 (spBeneathRows K a) := by
  refine h.ok scBeneathRows (fun vs H Q E h => ?_) (fun f cdv A outer s H vs Q E hr h => ?_)
  · obtain ⟨i, G, F, _, ⟨v1, v2, v3, rfl, _⟩, _⟩ := h
    rfl
  · obtain ⟨⟨ts, p, n⟩, G, F, hA, ⟨v1, v2, v3, rfl, r1, r2, r3, ht, hl⟩, k⟩ := h
    dsimp only at r1 r2 r3 ht hl
    cases r2
    cases r3
    have nd := scBeneathRows.nd
    refine ⟨_, (pss_one (ps_ret (pe_mk T.cRTb G_RawTable (hr.mono (by decide)) (by rfl) (pa_cons (pv 1) (pa_cons (pv 2) (pa_cons (pe_callB (k_sumT (K := K) rfl rfl) (by rfl) T.bsum (by decide +kernel) (pa_cons (pe_lc (own := [("table", 3)]) (g := (gName 3)) (tt := tYes) rfl nd (k_seq (K := K) rfl (pv 0)) (blkOk_by (N := nBeneathRows) (sc := defScope sBeneathRows) (by decide +kernel)) (fun _ _ _ _ _ => (pg_name (i := 3) nd rfl (by first | exact Or.inl rfl | exact Or.inr rfl))) (fun _ _ _ _ _ => pts_nil) (fun _ _ _ _ _ => (k_fld (K := K) rfl (pv 3) rfl))) (pa_cons (pe_tup pa_nil) pa_nil))) pa_nil)))))), ?_⟩
    refine s_ret (L := no) hA no_sub (R := RTab K a) (x := ⟨p, n, (ts.map TabD.rows).flatten⟩) (ev_raw ⟨p, n, (ts.map TabD.rows).flatten⟩ (ev_var (R := RI) rfl rfl) (ev_var (R := RN) rfl rfl) (ev_sumT (EvF.ev (ef_lcX (ei_seqL (ev_var rfl r1)) TabD.rows (by omega) fun t u G2 ht' s2 q2 => ev_tRows T (ev_var rfl q2))) ?_)) fun v G' H' s A q => k v G' H' s A q
    rw [List.map_map]
    exact Nat.le_trans (sum_le _ 1000 ts fun t ht' => ht t ht') (Nat.le_trans (Nat.mul_le_mul_right 1000 hl) (by decide))

/-! cleared -/
-- 0 prime 1 rows 2 place 3 row 4 other; cells place prime row
abbrev sCleared : Stmt := top 24
abbrev nCleared : List Str := ["prime", "rows", "place", "row", "other"]
abbrev pCleared : List Str := ["prime", "rows", "place", "row"]
theorem scCleared : FnScope nCleared pCleared (defScope sCleared) := ⟨rfl, rfl, rfl, by decide +kernel, rfl, by decide +kernel, by decide +kernel⟩
def spCleared (K : Fg) : Sp := SpF (ι := Int × List (List Int) × Nat × List Int × Nat) (fun i G vs => ∃ v1 v2 v3 v4, vs = [v1, v2, v3, v4] ∧ RI G v1 i.1 ∧ RL K (RT K RI) G v2 i.2.1 ∧ RN G v3 i.2.2.1 ∧ RT K RI G v4 i.2.2.2.1 ∧ 0 < i.1 ∧ i.1 ≤ 13 ∧ (∀ r ∈ i.2.1, Wr i.1 i.2.2.2.2 r) ∧ i.2.2.2.1.length = i.2.2.2.2 ∧ i.2.2.1 < i.2.2.2.2 ∧ i.2.2.2.2 ≤ 1000 ∧ i.2.1.length ≤ 1000)
  (RT K RI) (fun i => clrR i.1 i.2.2.1 i.2.2.2.1 i.2.1)
theorem less_zero {p : Int} {w : Nat} {r o : List Int} (hr : Wr p w r) (ho : o.length = w) : lessR p r 0 o = r := by
  refine List.ext_getElem (by unfold lessR; simp; rw [hr.1, ho]; omega) fun i h1 h2 => ?_
  simp only [lessR, List.getElem_zipWith, Int.zero_mul, Int.sub_zero]
  have := hr.2 _ (List.getElem_mem h2)
  exact Int.emod_eq_of_lt this.1 this.2
theorem ok_Cleared (T : Txt K mg a) (h : Has K mg "cleared" sCleared pCleared) (G_less : Fd P w K mg base CX0 "less" pLess 1 (spLess K)) : Fd P w K mg base CX0 "cleared" pCleared 2 (spCleared K) := by
  refine h.ok scCleared (fun vs H Q E h => ?_) (fun f cdv A outer s H vs Q E hr h => ?_)
  · obtain ⟨i, G, F, _, ⟨v1, v2, v3, v4, rfl, _⟩, _⟩ := h
    rfl
  · obtain ⟨⟨p, rows, c, row, wd⟩, G, F, hA, ⟨v1, v2, v3, v4, rfl, r1, r2, r3, r4, hp, hp2, hrow, hl, hc, hwd, hn⟩, k⟩ := h
    dsimp only at r1 r2 r3 r4 hp hp2 hrow hl hc hwd hn
    cases r1
    cases r3
    have nd := scCleared.nd
    refine ⟨_, (pss_one (ps_ret (pe_lc (own := [("other", 4)]) (g := (gName 4)) (tt := tYes) rfl nd (k_seq (K := K) rfl (pv 1)) (blkOk_by (N := nCleared) (sc := defScope sCleared) (by decide +kernel)) (fun _ _ _ _ _ => (pg_name (i := 4) nd rfl (by first | exact Or.inl rfl | exact Or.inr rfl))) (fun _ _ _ _ _ => pts_nil) (fun _ _ _ _ _ => (pe_ifExp (pt_cmpR op_ne (pe_ix (k_ix (K := K) rfl) (pv 4) (pv 2) (fun _ _ => rfl)) pe_int (nomark _)) (pe_fd G_less (hr.mono (by decide)) (by rfl) (pa_cons (pv 0) (pa_cons (pv 4) (pa_cons (pe_ix (k_ix (K := K) rfl) (pv 4) (pv 2) (fun _ _ => rfl)) (pa_cons (pv 3) pa_nil))))) (pv 4)))))), ?_⟩
    refine s_retF (L := no) hA no_sub (R := RT K RI) (xs := clrR p c row rows) (ef_lcX (S := RT K RI) (ei_seqL (ev_var rfl r2)) (fun o => lessR p o (ix o c) row) (by omega) fun o u G2 ho s2 q2 => ?_) fun l vs G' H' s n1 n2 A q => k l vs G' H' s n1 n2 A q
    have wo := hrow o ho
    have io : Ev (tOp (rIx K) (tVar 4) (tVar 2)) (List.set (wipe (start nCleared [V.int p, v2, V.int c, v4]) [4]) 4 (some u)) G2 no RI (ix o c) := ev_ixT (n := c) (ev_var rfl q2) (ev_var (R := RN) (x := c) rfl rfl).ni rfl (ix_some (by rw [wo.1]; exact hc))
    have bd := wo.at hp c
    refine ev_if (et_test (ev_neI io (ev_i (n := 0)))) (fun hne => ?_) fun he => ?_
    · exact ev_call (p, o, ix o c, row) (ea4 (ev_var (R := RI) (x := p) rfl rfl) (ev_var (R := RT K RI) rfl q2) io (ev_var (R := RT K RI) rfl (mn s2 r4))) (fun G' vs s ⟨z1, z2, z3, z4, e, q1, q2, q3, q4⟩ => ⟨z1, z2, z3, z4, e, q1, q2, q3, q4, hp, by dsimp only; rw [wo.1, hl], by dsimp only; rw [wo.1]; exact hwd, bd.1, by dsimp only; omega⟩) fun _ _ _ q => q
    · have e0 : ix o c = 0 := by simpa using he
      rw [e0, less_zero wo hl]
      exact ev_var rfl q2
end
end MW

set_option Elab.async false
set_option linter.all false
set_option maxRecDepth 100000
set_option maxHeartbeats 4000000
/-! Walks: reduced_rows, rank, kernel. -/
namespace MW
open PySem PySem.Spec PyProof.Rows L2
theorem first_filter (q : List Int → Bool) : ∀ xs : List (List Int), ((List.range xs.length).filter fun i => q (ro xs i)).head? = xs.findIdx? q
  | [] => rfl
  | x :: xs => by
    rw [List.length_cons, List.range_succ_eq_map, List.filter_cons, List.findIdx?_cons]
    have e0 : ro (x :: xs) 0 = x := rfl
    rw [e0]
    cases h : q x
    · simp only [Bool.false_eq_true, if_false, List.filter_map, List.head?_map]
      have e : ((fun i => q (ro (x :: xs) i)) ∘ Nat.succ) = fun i => q (ro xs i) := rfl
      rw [e, first_filter q xs]
    · simp
/-- the next statement of a block -/
theorem nq {t u : TS} {D : Ends} {b : VK} {c d : L2.St → Hp → Prop} {σ : L2.St} {H : Hp} (h : t { D with nx := u D } σ H) : (Ends.mk (tSeq t u D) b c d).nx σ H := h
theorem upd_comm {H : Hp} {a b : Addr} {o u : HO} (h : a ≠ b) : upd (upd H a o) b u = upd (upd H b u) a o := by
  funext c
  by_cases ha : c = a
  · rw [ha, upd_ne h, upd_same, upd_same]
  · by_cases hb : c = b
    · rw [hb, upd_same, upd_ne (Ne.symm h), upd_same]
    · rw [upd_ne hb, upd_ne ha, upd_ne ha, upd_ne hb]
theorem del_upd {F : Hp} {p q : Addr} {o : HO} (h : F q = none) (hq : q ≠ p) : del (upd (upd F p o) q (.lst [])) q = upd F p o := upd_del (by rw [upd_ne hq]; exact h)
section
variable {α β : Type} {K : Fg} {σ : L2.St} {G F H L : Hp} {ta tb te : TE} {D : Ends} {R : Rel α} {S : Rel β} {x : α} {y : β}
/-- a, b = e1, e2 with two new lists -/
theorem s_parF {i j : Nat} {xs : List α} {ys : List β} [Mn R] (A : At G F H) (c : Same L F) (h1 : EvF ta σ G L R xs) (h2 : EvF tb σ G L S ys)
    (k : ∀ l vs m ws G' H', Same G G' → F l = none → F m = none → m ≠ l → G' l = none → G' m = none → At G' (upd (upd F l (.lst vs)) m (.lst ws)) H' → Paired (R G') vs xs → Paired (S G') ws ys → D.nx ((σ.set i (some (.ref l))).set j (some (.ref m))) H') :
    tPar i j (tCons ta (tCons tb tNil)) D σ H :=
  h1 G F H (Same.refl _) c A _ fun l vs G2 H2 s n1 n2 A2 p => h2 G2 _ H2 s (c.trans (same_new n1)) A2 _ fun m ws G3 H3 s3 n3 n4 A3 p3 => by
    have ml : m ≠ l := fun z => by rw [z, upd_same] at n3; cases n3
    have nm : F m = none := by rw [upd_ne ml] at n3; exact n3
    refine ⟨_, _, rfl, k l vs m ws G3 H3 (s.trans s3) n1 nm ml ?_ n4 A3 (pairedS s3 p) p3⟩
    exact A3.d l (.lst vs) (by rw [upd_ne (Ne.symm ml), upd_same])
/-- xs + ys of two new lists -/
theorem ef_cat {xs ys : List α} [Mn R] (h1 : EvF ta σ G L R xs) (h2 : EvF tb σ G L R ys) (hz : xs.length + ys.length ≤ 1000000) : EvF (tOp rCat ta tb) σ G L R (xs ++ ys) := fun G1 F H s c A Q q =>
  h1 G1 F H s c A _ fun l vs G2 H2 s2 n1 n2 A2 p => h2 G2 _ H2 (s.trans s2) (c.trans (same_new n1)) A2 _ fun m ws G3 H3 s3 n3 n4 A3 p3 => by
    have ml : m ≠ l := fun z => by rw [z, upd_same] at n3; cases n3
    have nm : F m = none := by rw [upd_ne ml] at n3; exact n3
    have hl : H3 l = some (.lst vs) := A3.f l _ (by rw [upd_ne (Ne.symm ml), upd_same])
    have hm : H3 m = some (.lst ws) := A3.f m _ upd_same
    refine ⟨l, m, vs, ws, rfl, rfl, hl, hm, ?_, fun d hd => ?_⟩
    · rw [Paired.len p, Paired.len p3, sizeLine_eq]; omega
    · have dl : d ≠ l := fun z => by rw [z, hl] at hd; cases hd
      have dm : d ≠ m := fun z => by rw [z, hm] at hd; cases hd
      have A4 : At G3 F H3 := (A3.gone (by rw [upd_ne ml]; exact nm)).gone n1
      exact q d _ G3 _ (s2.trans s3) (A4.nF hd) (A4.nG hd) (A4.newF hd) (papp (pairedS s3 p) p3)
theorem seqIx {n j : Nat} (h : j < n) : seqIndex? (j : Int) n = some j := by
  unfold seqIndex?
  simp
  omega
/-- name = xs.pop(i) -/
theorem s_pop {i k j : Nat} {l : Addr} {vs : List V} {v : V} (A : At G F H) (c : Same L F) (hk : σ[k]? = some (some (.ref l))) (hl : F l = some (.lst vs)) (hi : Ev te σ G L RN j) (hv : vs[j]? = some v) (hj : j ≤ 1000000)
    (kk : ∀ G' H', Same G G' → At G' (upd F l (.lst (vs.eraseIdx j))) H' → D.nx (σ.set i (some v)) H') : tAsg (tBM K "list" rPopAt (tVar k) (tCons te tNil)) (gName i) D σ H :=
  ⟨_, hk, .inl ⟨rfl, vs, .inl (.inl (A.f _ _ hl))⟩, hi G F H (Same.refl _) c A _ fun u G2 H2 s A2 r => by
    cases r
    refine ⟨l, vs, (j : Int), j, v, rfl, rfl, A2.f _ _ hl, by omega, by omega, seqIx (List.getElem?_eq_some_iff.mp hv).1, hv, kk G2 _ s (A2.set hl)⟩⟩
end
section
variable {P : Program} {w : World} {K : Fg} {mg : Str → Option Value} {base : Heap} {a : Adr}

theorem ef_cleared {σ : L2.St} {G L : Hp} {ta tb tc td : TE} {E : XK} {p : Int} {rows : List (List Int)} {c wd : Nat} {row : List Int} (h1 : Ev ta σ G L RI p) (h2 : Ev tb σ G L (RL K (RT K RI)) rows) (h3 : Ev tc σ G L RN c) (h4 : Ev td σ G L (RT K RI) row)
    (hp : 0 < p ∧ p ≤ 13) (hr : ∀ r ∈ rows, Wr p wd r) (hl : row.length = wd) (hc : c < wd) (hw : wd ≤ 1000) (hn : rows.length ≤ 1000) : EvF (tCall (spCleared K) [] E (tCons ta (tCons tb (tCons tc (tCons td tNil))))) σ G L (RT K RI) (clrR p c row rows) :=
  ef_call (p, rows, c, row, wd) (ea4 h1 h2 h3 h4) fun G' vs s ⟨z1, z2, z3, z4, e, q1, q2, q3, q4⟩ => ⟨z1, z2, z3, z4, e, q1, q2, q3, q4, hp.1, hp.2, hr, hl, hc, hw, hn⟩
theorem ev_inverse {σ : L2.St} {G L : Hp} {ta tb : TE} {E : XK} {p x : Int} (h1 : Ev ta σ G L RI p) (h2 : Ev tb σ G L RI x) (hp : 2 ≤ p ∧ p ≤ 13) (hx : 0 ≤ x ∧ x < p) : Ev (tCall (spInverseOf K) [] E (tCons ta (tCons tb tNil))) σ G L RI (invF p x) :=
  ev_call (p, x) (ea2 h1 h2) (fun G' vs s ⟨z1, z2, e, q1, q2⟩ => ⟨z1, z2, e, q1, q2, hp.1, hp.2, hx.1, hx.2⟩) fun _ _ _ q => q

/-! reduced_rows -/
-- 0 prime 1 wide 2 rows 3 left 4 found 5 places 6 place 7 some 8 row 9 at 10 worth; cells left place prime row
abbrev sReducedRows : Stmt := top 25
abbrev nReducedRows : List Str := ["prime", "wide", "rows", "left", "found", "places", "place", "some", "row", "at", "worth"]
abbrev pReducedRows : List Str := ["prime", "wide", "rows"]
theorem scReducedRows : FnScope nReducedRows pReducedRows (defScope sReducedRows) := ⟨rfl, rfl, rfl, by decide +kernel, rfl, by decide +kernel, by decide +kernel⟩
def RRows (K : Fg) : Rel (List (List Int)) := fun G v rows => RT K (RT K RI) G v rows ∨ RL K (RT K RI) G v rows
instance {K : Fg} : Mn (RRows K) := ⟨fun e h => h.elim (fun h => .inl (mn e h)) fun h => .inr (mn e h)⟩
theorem ei_rows {σ : L2.St} {G L : Hp} {k : Nat} {v : V} {rows : List (List Int)} (hk : σ[k]? = some (some v)) (h : RRows K G v rows) : EvI (iSeq K (tVar k)) σ G L rows.length (fun i G' v => ∃ x, rows[i]? = some x ∧ RT K RI G' v x) :=
  h.elim (fun h => ei_seqT (ev_var hk h)) fun h => ei_seqL (ev_var hk h)
def spReducedRows (K : Fg) : Sp := SpP (ι := Int × Nat × List (List Int)) (fun i G vs => ∃ v1 v2 v3, vs = [v1, v2, v3] ∧ RI G v1 i.1 ∧ RN G v2 i.2.1 ∧ RRows K G v3 i.2.2 ∧ Fp i.1 ∧ (∀ r ∈ i.2.2, Wr i.1 i.2.1 r) ∧ i.2.1 ≤ 1000 ∧ i.2.2.length ≤ 1000)
  (fun i G v => RP K (RT K (RT K RI)) (RT K RN) G v ((redS i.1 i.2.1 i.2.2).found, (redS i.1 i.2.1 i.2.2).places))
theorem ok_ReducedRows (T : Txt K mg a) (h : Has K mg "reduced_rows" sReducedRows pReducedRows) (G_inverse_of : Fd P w K mg base CX0 "inverse_of" pInverseOf 1 (spInverseOf K)) (G_cleared : Fd P w K mg base CX0 "cleared" pCleared 2 (spCleared K)) : Fd P w K mg base CX0 "reduced_rows" pReducedRows 3 (spReducedRows K) := by
  refine h.ok scReducedRows (fun vs H Q E h => ?_) (fun f cdv A outer s H vs Q E hr h => ?_)
  · obtain ⟨i, G, F, _, ⟨v1, v2, v3, rfl, _⟩, _⟩ := h
    rfl
  · obtain ⟨⟨p, wd, rows⟩, G, F, hA, ⟨v1, v2, v3, rfl, r1, r2, r3, hp, hrow, hwd, hn⟩, k⟩ := h
    dsimp only at r1 r2 r3 hp hrow hwd hn
    cases r1
    cases r2
    have nd := scReducedRows.nd
    refine ⟨_, (pss_cons (ps_set (i := 3) nd rfl (Or.inr rfl) (pe_lc (own := [("row", 8)]) (g := (gName 8)) (tt := tYes) rfl nd (k_seq (K := K) rfl (pv 2)) (blkOk_by (N := nReducedRows) (sc := defScope sReducedRows) (by decide +kernel)) (fun _ _ _ _ _ => (pg_name (i := 8) nd rfl (by first | exact Or.inl rfl | exact Or.inr rfl))) (fun _ _ _ _ _ => pts_nil) (fun _ _ _ _ _ => (pe_callTy (k_tuple (K := K) rfl) (by rfl) T.btuple (by decide +kernel) (pa_cons (pv 8) pa_nil)))))
      (pss_cons (ps_par (i := 4) (j := 5) rfl nd rfl rfl (by decide) rfl rfl (pa_cons (pe_lst pa_nil) (pa_cons (pe_lst pa_nil) pa_nil)) (by rfl))
      (pss_cons (ps_for PassesOwn.never rfl (pi_range1 (by rfl) T.brange (pa_cons (pv 1) pa_nil)) (pg_name (i := 6) nd rfl (by first | exact Or.inl rfl | exact Or.inr rfl))
        (pss_cons (ps_setLc (i := 7) (own := [("at", 9)]) (g := (gName 9)) (tt := _) rfl nd rfl rfl (sw_true rfl rfl rfl (by decide +kernel)) (pi_range1 (by rfl) T.brange (pa_cons (pe_callB (k_len (K := K) rfl) (by rfl) T.blen PySem.boot_len (pa_cons (pv 3) pa_nil)) pa_nil)) (blkOk_by (N := nReducedRows) (sc := defScope sReducedRows) (by decide +kernel)) (fun _ _ _ _ _ => (pg_name (i := 9) nd rfl (by first | exact Or.inl rfl | exact Or.inr rfl))) (fun _ _ _ _ _ => (pts_one (pt_cmpR op_ne (pe_ix (k_ix (K := K) rfl) (pe_ix (k_ix (K := K) rfl) (pv 3) (pv 9) (fun _ _ => rfl)) (pv 6) (fun _ _ => rfl)) pe_int (nomark _)))) (fun _ _ _ _ _ => (pv 9)))
        (pss_one (ps_if (pt_cmpR op_gt (pe_callB (k_len (K := K) rfl) (by rfl) T.blen PySem.boot_len (pa_cons (pv 7) pa_nil)) pe_int (nomark _))
          (pss_cons (ps_set (i := 8) nd rfl (Or.inr rfl) (k_bm (K := K) rfl PySem.F.plainAttrs_list PySem.F.slot_list_pop PySem.F.type_list_pop mt_popAt (pv 3) (pa_cons (pe_ix (k_ix (K := K) rfl) (pv 7) pe_int (fun _ _ => rfl)) pa_nil)))
          (pss_cons (ps_set (i := 8) nd rfl (Or.inr rfl) (pe_callTy (k_tuple (K := K) rfl) (by rfl) T.btuple (by decide +kernel) (pa_cons (pe_lc (own := [("worth", 10)]) (g := (gName 10)) (tt := tYes) rfl nd (k_seq (K := K) rfl (pv 8)) (blkOk_by (N := nReducedRows) (sc := defScope sReducedRows) (by decide +kernel)) (fun _ _ _ _ _ => (pg_name (i := 10) nd rfl (by first | exact Or.inl rfl | exact Or.inr rfl))) (fun _ _ _ _ _ => pts_nil) (fun _ _ _ _ _ => (pe_op op_modN (pe_op op_mul (pv 10) (pe_fd G_inverse_of (hr.mono (by decide)) (by rfl) (pa_cons (pv 0) (pa_cons (pe_ix (k_ix (K := K) rfl) (pv 8) (pv 6) (fun _ _ => rfl)) pa_nil)))) (pv 0)))) pa_nil)))
          (pss_cons (ps_set (i := 3) nd rfl (Or.inr rfl) (pe_fd G_cleared (hr.mono (by decide)) (by rfl) (pa_cons (pv 0) (pa_cons (pv 3) (pa_cons (pv 6) (pa_cons (pv 8) pa_nil))))))
          (pss_cons (ps_set (i := 4) nd rfl (Or.inl rfl) (pe_op op_cat (pe_fd G_cleared (hr.mono (by decide)) (by rfl) (pa_cons (pv 0) (pa_cons (pv 4) (pa_cons (pv 6) (pa_cons (pv 8) pa_nil))))) (pe_lst (pa_cons (pv 8) pa_nil))))
          (pss_one (ps_expr (k_bm (K := K) rfl PySem.F.plainAttrs_list PySem.F.slot_list_append PySem.F.type_list_append mt_append (pv 5) (pa_cons (pv 6) pa_nil))))))))
          pss_nil))))
      (pss_one (ps_ret (pe_tup (pa_cons (pe_callTy (k_tuple (K := K) rfl) (by rfl) T.btuple (by decide +kernel) (pa_cons (pv 4) pa_nil)) (pa_cons (pe_callTy (k_tuple (K := K) rfl) (by rfl) T.btuple (by decide +kernel) (pa_cons (pv 5) pa_nil)) pa_nil)))))))), ?_⟩
    have p1 := hp.pos
    have p2 := hp.small
    refine s_asgF (L := no) hA no_sub (R := RT K RI) (xs := rows) ?_ fun l vs G1 H1 s1 n1 n2 A1 q1 => ?_
    · have e := ef_lcX (S := RT K RI) (L := no) (j := 8) (te := tCB (rTupOf K) (tCons (tVar 8) tNil)) (ei_rows (σ := start nReducedRows [V.int p, V.int (wd : Int), v3]) (k := 2) rfl r3) (fun r => r) (by omega) fun r u G2 hr' s2 q2 => ev_tupT (ev_var rfl q2)
      rw [List.map_id'] at e
      exact e
    refine s_parF (L := no) A1 no_sub (R := RT K RI) (S := RN) (xs := []) (ys := []) ef_nil ef_nil fun l2 vs2 m ws G2 H2 s2 n3 n4 ml n5 n6 A2 q2 q3 => ?_
    cases q2
    cases q3
    -- found is never changed
    have l2l : l2 ≠ l := fun z => by rw [z, upd_same] at n3; cases n3
    have mll : m ≠ l := fun z => by rw [z, upd_same] at n4; cases n4
    have fl2 : F l2 = none := by rw [upd_ne l2l] at n3; exact n3
    have fm : F m = none := by rw [upd_ne mll] at n4; exact n4
    have e1 : upd (upd (upd F l (.lst vs)) l2 (.lst [])) m (.lst []) = upd (upd (upd F m (.lst [])) l (.lst vs)) l2 (.lst []) := by
      rw [upd_comm (Ne.symm ml), upd_comm (Ne.symm mll)]
    rw [e1] at A2
    have A3 := A2.freezeN (by rw [upd_ne l2l, upd_ne (Ne.symm ml)]; exact fl2)
    have s3 : Same G2 (upd G2 l2 (.lst [])) := same_new n5
    let st := fun i => (List.range i).foldl (stepR p) ⟨rows, [], []⟩
    have hst : ∀ i, st (i + 1) = stepR p (st i) i := fun i => by
      show (List.range (i + 1)).foldl (stepR p) ⟨rows, [], []⟩ = _
      rw [List.range_succ, List.foldl_append]
      rfl
    refine s_for (L := no) (n := wd) A3 no_sub (ei_rangeN (ev_var (R := RI) rfl rfl) (by omega))
      (fun i σ G' F' => Same G1 G' ∧ ∃ l m vs ps fv u6 u7 u8, σ = [some (.int p), some (.int (wd : Int)), some v3, some (.ref l), some fv, some (.ref m), u6, u7, u8, none, none] ∧ F' = upd (upd F m (.lst ps)) l (.lst vs) ∧ F l = none ∧ F m = none ∧ l ≠ m ∧
        Paired (RT K RI G') vs (st i).left ∧ RL K (RT K RI) G' fv (st i).found ∧ Paired (RN G') ps (st i).places)
      (fun G' s => ⟨(s2.trans s3).trans s, l, m, vs, [], .ref l2, none, none, none, rfl, rfl, n1, fm, Ne.symm mll, pairedS ((s2.trans s3).trans s) q1, ⟨l2, [], rfl, .inl (.inl (s _ _ upd_same)), .nil⟩, .nil⟩)
      (fun _ _ _ _ _ => no_sub) ?_ ?_
    · rintro G0 s0 c v σ' G' F' H' hc ⟨s4, l, m, vs, ps, fv, u6, u7, u8, rfl, rfl, nl, nm, lm, q1, q2, q3⟩ G'' s5 s6 A4 rfl
      have gd := Good.run hp hrow c (by omega)
      have hc' : c < wd := hc
      rw [show (List.range c).foldl (stepR p) ⟨rows, [], []⟩ = st c from rfl] at gd
      have hLl : (upd (upd F m (.lst ps)) l (.lst vs)) l = some (.lst vs) := upd_same
      have hleft := Paired.len q1
      have q1' := pairedS s5 q1
      have cnt := gd.cnt
      refine s_asg (L := upd (upd F m (.lst ps)) l (.lst vs)) A4 (Same.refl _) (R := RL K RN) (x := ((List.range (st c).left.length).filter fun i => ix (ro (st c).left i) c != 0).map fun i => i) ?_ fun v7 G5 H5 s7 A5 r7 => ?_
      · refine EvF.ev (ef_lcRF (((ev_lenM (K := K) (k := 3) (l := l) (vs := vs) rfl hLl)).inn (by rw [hleft])) (by omega) (fun i => ix (ro (st c).left i) c != 0) (fun i => i) (fun i v G6 hi s8 q8 => ?_) fun i v G6 hi _ s8 q8 => ev_var rfl q8)
        cases q8
        refine et_test ((ev_neI (i := ix (ro (st c).left i) c) (ev_ixT (n := c) (ev_ixM (n := i) rfl hLl (pairedS s8 q1') (ev_var (R := RN) (x := i) rfl rfl).ni rfl (x := ro (st c).left i) (by rw [ro_get hi]; simp [hi])) (ev_var (R := RN) (x := c) rfl rfl).ni rfl (ix_some (by rw [(gd.wl _ (ro_mem hi)).1]; exact hc'))) (ev_i (n := 0))).is ?_)
        simp [bne, Bool.beq_eq_decide_eq]
      rw [List.map_id'] at r7
      have hfirst := first_filter (fun r => ix r c != 0) (st c).left
      refine s_if (L := upd (upd F m (.lst ps)) l (.lst vs)) A5 (Same.refl _) (b := decide ((0 : Int) < (((List.range (st c).left.length).filter fun i => ix (ro (st c).left i) c != 0).length : Int))) (et_test (ev_cmp (f := fun i j => decide (j < i)) (ev_lenL (ev_var rfl r7)) (ev_i (n := 0)))) (fun hb G6 H6 s8 A6 => ?_) fun hb G6 H6 s8 A6 => ?_
      · -- one was found
        cases hf : (st c).left.findIdx? (fun r => ix r c != 0) with
        | none =>
          rw [hf] at hfirst
          rw [List.head?_eq_none_iff.mp hfirst] at hb
          simp at hb
        | some j =>
          rw [hf] at hfirst
          obtain ⟨hj, hjz, _⟩ := List.findIdx?_eq_some_iff_getElem.mp hf
          have hstep : st (c + 1) = nxR p (st c) c j := by rw [hst]; unfold stepR; rw [hf]
          have hzero : ((List.range (st c).left.length).filter fun i => ix (ro (st c).left i) c != 0)[0]? = some j := by rw [← List.head?_eq_getElem?]; exact hfirst
          have wL := gd.wl _ (ro_mem hj)
          have bd := wL.at (by omega) c
          have hjz' : ix (ro (st c).left j) c ≠ 0 := by rw [ro_get hj]; simpa using hjz
          obtain ⟨vj, hvj, rj⟩ := pget (pairedS (s7.trans s8) q1') (show (st c).left[j]? = some (ro (st c).left j) by rw [ro_get hj]; simp [hj])
          refine s_pop (L := upd (upd F m (.lst ps)) l (.lst vs)) A6 (Same.refl _) rfl hLl (j := j) (ev_ixL (n := 0) (R := RN) (ev_var rfl (mn s8 r7)) (ev_i (n := 0)) rfl hzero) hvj (by omega) fun G7 H7 s9 A7 => ?_
          rw [upd_upd] at A7
          have nlm : upd F m (.lst ps) l = none := by rw [upd_ne lm]; exact nl
          have A8 := A7.freezeN nlm
          have g7 : G7 l = none := A7.d l _ upd_same
          have s10 : Same G7 (upd G7 l (.lst (vs.eraseIdx j))) := same_new g7
          have S1 : Same G'' (upd G7 l (.lst (vs.eraseIdx j))) := ((s7.trans s8).trans s9).trans s10
          have q1a : Paired (RT K RI (upd G7 l (.lst (vs.eraseIdx j)))) (vs.eraseIdx j) ((st c).left.eraseIdx j) := perase j (pairedS S1 q1')
          have rj' := mn (s9.trans s10) rj
          generalize hrow' : ro (st c).left j = rw0 at rj' wL bd hjz'
          have hnew : newR p (st c).left c j = sclR p (ix rw0 c) rw0 := by unfold newR; rw [hrow']
          refine nq ?_
          refine s_asg (L := no) A8 no_sub (R := RT K RI) (x := sclR p (ix rw0 c) rw0) ?_ fun v8 G9 H9 s11 A9 r8 => ?_
          · refine ev_tupL (EvF.ev (ef_lcX (ei_seqT (ev_var rfl rj')) (fun x => x * invF p (ix rw0 c) % p) (by rw [wL.1]; omega) fun x u G10 hx s12 q12 => ?_))
            have io : Ev (tOp (rIx K) (tVar 8) (tVar 6)) (List.set (wipe [some (V.int p), some (V.int (wd : Int)), some v3, some (V.ref l), some fv, some (V.ref m), some (V.int (c : Int)), some v7, some vj, none, none] [10]) 10 (some u)) G10 no RI (ix rw0 c) := ev_ixT (n := c) (ev_var rfl (mn s12 rj')) (ev_var (R := RN) (x := c) rfl rfl).ni rfl (ix_some (by rw [wL.1]; exact hc'))
            have bx := wL.2 x hx
            refine ev_mod (ev_mul (ev_var rfl q12) (ev_inverse (ev_var (R := RI) (x := p) rfl rfl) io ⟨by omega, by omega⟩ ⟨by omega, by omega⟩) (.inl ⟨by omega, by omega⟩)) (ev_var (R := RI) rfl rfl) (by omega)
          have wN : Wr p wd (sclR p (ix rw0 c) rw0) := wr_scl (by omega) wL.1
          have memE : ∀ r ∈ (st c).left.eraseIdx j, Wr p wd r := fun r hr => gd.wl r (List.mem_of_mem_eraseIdx hr)
          have lenE : ((st c).left.eraseIdx j).length ≤ 1000 := Nat.le_trans (List.length_eraseIdx_le _ _) (by omega)
          have rl : RL K (RT K RI) G9 (.ref l) ((st c).left.eraseIdx j) := ⟨l, vs.eraseIdx j, rfl, .inl (.inl (s11 _ _ upd_same)), pairedS s11 q1a⟩
          refine s_asgF (L := no) A9 no_sub (R := RT K RI) (xs := clrR p c (sclR p (ix rw0 c) rw0) ((st c).left.eraseIdx j)) (ef_cleared (ev_var rfl rfl) (ev_var rfl rl) (ev_var (R := RN) rfl rfl) (ev_var rfl r8) ⟨by omega, by omega⟩ memE wN.1 hc' hwd lenE) fun l3 vs3 G11 H11 s13 n7 n8 A11 q13 => ?_
          have fE : ∀ r ∈ (st c).found, Wr p wd r := gd.wf
          have r2f := mn (S1.trans (s11.trans s13)) (mn s5 q2)
          refine s_asg (L := no) A11 no_sub (R := RL K (RT K RI)) (x := clrR p c (sclR p (ix rw0 c) rw0) (st c).found ++ [sclR p (ix rw0 c) rw0]) (EvF.ev (ef_cat (ef_cleared (ev_var rfl rfl) (ev_var rfl r2f) (ev_var (R := RN) rfl rfl) (ev_var rfl (mn s13 r8)) ⟨by omega, by omega⟩ fE wN.1 hc' hwd (by omega)) (ef_lst (ea_consR (ev_var rfl (mn s13 r8)) ea_nilR) (by simp)) (by unfold clrR; simp; omega))) fun v4 G12 H12 s14 A12 r4 => ?_
          have hm3 : m ≠ l3 := fun z => by rw [← z, upd_same] at n7; cases n7
          refine s_app (L := no) A12 no_sub (k := 5) rfl (l := m) (vs := ps) (by rw [upd_ne hm3, upd_same]) (R := RN) (x := c) (ev_var rfl rfl) (by rw [Paired.len q3, ← gd.len]; omega) fun vp G13 H13 s15 A13 rp => ?_
          have S2 : Same G'' G13 := S1.trans ((s11.trans s13).trans (s14.trans s15))
          have e5 : upd (upd (upd F m (.lst ps)) l3 (.lst vs3)) m (.lst (ps ++ [vp])) = upd (upd F m (.lst (ps ++ [vp]))) l3 (.lst vs3) := by rw [upd_comm (Ne.symm hm3), upd_upd]
          rw [e5] at A13
          have nl3 : F l3 = none := by rw [upd_ne (Ne.symm hm3)] at n7; exact n7
          refine ⟨G13, _, s6.trans S2, A13, s4.trans (s5.trans S2), l3, m, vs3, ps ++ [vp], v4, _, _, _, rfl, rfl, nl3, nm, Ne.symm hm3, ?_, ?_, ?_⟩
          · rw [hstep]
            show Paired _ vs3 (clrR p c (newR p (st c).left c j) ((st c).left.eraseIdx j))
            rw [hnew]
            exact pairedS (s14.trans s15) q13
          · rw [hstep]
            show RL K (RT K RI) G13 v4 (clrR p c (newR p (st c).left c j) (st c).found ++ [newR p (st c).left c j])
            rw [hnew]
            exact mn s15 r4
          · rw [hstep]
            exact papp (pairedS (s5.trans S2) q3) (pone rp)
      · -- none
        have hf : (st c).left.findIdx? (fun r => ix r c != 0) = none := by
          rw [← hfirst]
          have : ((List.range (st c).left.length).filter fun i => ix (ro (st c).left i) c != 0).length = 0 := by
            have := of_decide_eq_false hb
            omega
          rw [List.eq_nil_of_length_eq_zero this]
          rfl
        have hstep : st (c + 1) = st c := by rw [hst]; unfold stepR; rw [hf]
        have S2 : Same G'' G6 := s7.trans s8
        refine ⟨G6, _, s6.trans S2, A6, s4.trans (s5.trans S2), l, m, vs, ps, fv, _, _, _, rfl, rfl, nl, nm, lm, ?_, ?_, ?_⟩
        · rw [hstep]; exact pairedS S2 q1'
        · rw [hstep]; exact mn (s5.trans S2) q2
        · rw [hstep]; exact pairedS (s5.trans S2) q3
    · rintro σ' G' F' H' s4 A4 ⟨s5, l, m, vs, ps, fv, u6, u7, u8, rfl, rfl, nl, nm, lm, q1, q2, q3⟩
      refine s_ret (L := upd (upd F m (.lst ps)) l (.lst vs)) A4 (Same.refl _) (R := RP K (RT K (RT K RI)) (RT K RN)) (x := ((redS p wd rows).found, (redS p wd rows).places)) (ev_tup2 (ev_tupL (ev_var rfl q2)) (ev_tupM (k := 5) rfl (by rw [upd_ne (Ne.symm lm), upd_same]) q3)) fun v G5 H5 s6 A5 q5 => ?_
      exact k v G5 H5 (s1.trans (s5.trans s6)) ((A5.gone (by rw [upd_ne lm]; exact nl)).gone nm) q5
end
end MW

set_option Elab.async false
set_option linter.all false
set_option maxRecDepth 100000
set_option maxHeartbeats 4000000
/-! Walks: rank, kernel. -/
namespace MW
open PySem PySem.Spec PyProof.Rows L2
theorem contains_cast (n : Nat) : ∀ ns : List Nat, (ns.map fun (n : Nat) => (n : Int)).contains (n : Int) = ns.contains n
  | [] => rfl
  | m :: ns => by
    rw [List.map_cons, List.contains_cons, List.contains_cons, contains_cast n ns]
    congr 1
    by_cases h : n = m
    · subst h; simp
    · have h2 : ¬ (n : Int) = (m : Int) := by omega
      rw [beq_eq_false_iff_ne.mpr h, beq_eq_false_iff_ne.mpr h2]
section
variable {P : Program} {w : World} {K : Fg} {mg : Str → Option Value} {base : Heap} {a : Adr}
/-- a table of worths -/
def Worth (d : TabD) : Prop := Fp d.p ∧ (∀ r ∈ d.rows, Wr d.p d.wide r) ∧ d.wide ≤ 1000 ∧ d.rows.length ≤ 1000
theorem ev_reduced {σ : L2.St} {G L : Hp} {ta tb tc : TE} {E : XK} {p : Int} {wd : Nat} {rows : List (List Int)} (h1 : Ev ta σ G L RI p) (h2 : Ev tb σ G L RN wd) (h3 : Ev tc σ G L (RRows K) rows) (hp : Fp p) (hr : ∀ r ∈ rows, Wr p wd r) (hw : wd ≤ 1000) (hn : rows.length ≤ 1000) :
    Ev (tCall (spReducedRows K) [] E (tCons ta (tCons tb (tCons tc tNil)))) σ G L (RP K (RT K (RT K RI)) (RT K RN)) ((redS p wd rows).found, (redS p wd rows).places) :=
  ev_call (p, wd, rows) (ea3 h1 h2 h3) (fun G' vs s ⟨z1, z2, z3, e, q1, q2, q3⟩ => ⟨z1, z2, z3, e, q1, q2, q3, hp, hr, hw, hn⟩) fun _ _ _ q => q
theorem ev_reducedT {σ : L2.St} {G L : Hp} {ta : TE} {E : XK} {d : TabD} (T : Txt K mg a) (h : Ev ta σ G L (RTab K a) d) (hd : Worth d) :
    Ev (tCall (spReducedRows K) [] E (tCons (tFld K ta "prime") (tCons (tFld K ta "wide") (tCons (tFld K ta "rows") tNil)))) σ G L (RP K (RT K (RT K RI)) (RT K RN)) ((redS d.p d.wide d.rows).found, (redS d.p d.wide d.rows).places) :=
  ev_reduced (ev_tPrime T h) (ev_tWide T h) ((ev_tRows T h).imp fun _ _ q => .inl q) hd.1 hd.2.1 hd.2.2.1 hd.2.2.2

/-! rank -/
-- 0 table; cells 
abbrev sRank : Stmt := top 26
abbrev nRank : List Str := ["table"]
abbrev pRank : List Str := ["table"]
theorem scRank : FnScope nRank pRank (defScope sRank) := ⟨rfl, rfl, rfl, by decide +kernel, rfl, by decide +kernel, by decide +kernel⟩
def spRank (K : Fg) (a : Adr) : Sp := SpP (ι := TabD) (fun i G vs => ∃ v1, vs = [v1] ∧ RTab K a G v1 i ∧ Worth i) (fun i G v => RN G v (red i.p i.wide i.rows).length)
theorem ok_Rank (T : Txt K mg a) (h : Has K mg "rank" sRank pRank) (G_reduced_rows : Fd P w K mg base CX0 "reduced_rows" pReducedRows 3 (spReducedRows K)) : Fd P w K mg base CX0 "rank" pRank 4 (spRank K a) := by
  refine h.ok scRank (fun vs H Q E h => ?_) (fun f cdv A outer s H vs Q E hr h => ?_)
  · obtain ⟨i, G, F, _, ⟨v1, rfl, _⟩, _⟩ := h
    rfl
  · obtain ⟨d, G, F, hA, ⟨v1, rfl, r1, hd⟩, k⟩ := h
    have nd := scRank.nd
    refine ⟨_, (pss_one (ps_ret (pe_callB (k_len (K := K) rfl) (by rfl) T.blen PySem.boot_len (pa_cons (pe_ix (k_ix (K := K) rfl) (pe_fd G_reduced_rows (hr.mono (by decide)) (by rfl) (pa_cons (k_fld (K := K) rfl (pv 0) rfl) (pa_cons (k_fld (K := K) rfl (pv 0) rfl) (pa_cons (k_fld (K := K) rfl (pv 0) rfl) pa_nil)))) pe_int (fun _ _ => rfl)) pa_nil)))), ?_⟩
    exact s_ret (L := no) hA no_sub (R := RN) (x := (red d.p d.wide d.rows).length) ((ev_lenT (ev_ixP0 (ev_reducedT T (ev_var rfl r1) hd))).inn rfl) fun v G' H' s A q => k v G' H' s A q

/-! kernel -/
-- 0 table 1 rows 2 places 3 found 4 free 5 column 6 row 7 place 8 at; cells free
abbrev sKernel : Stmt := top 27
abbrev nKernel : List Str := ["table", "rows", "places", "found", "free", "column", "row", "place", "at"]
abbrev pKernel : List Str := ["table"]
theorem scKernel : FnScope nKernel pKernel (defScope sKernel) := ⟨rfl, rfl, rfl, by decide +kernel, rfl, by decide +kernel, by decide +kernel⟩
def spKernel (K : Fg) (a : Adr) : Sp := SpP (ι := TabD) (fun i G vs => ∃ v1, vs = [v1] ∧ RTab K a G v1 i ∧ Worth i) (fun i G v => RT K (RT K RI) G v (ker i.p i.wide i.rows))
theorem freeP_succ (w : Nat) (P : List Nat) : freeP (w + 1) P = if P.contains w then freeP w P else freeP w P ++ [w] := by
  unfold freeP
  rw [List.range_succ, List.filter_append, List.filter_cons]
  cases P.contains w <;> simp
theorem freeP_le (P : List Nat) (w : Nat) : (freeP w P).length ≤ w := by
  unfold freeP
  refine Nat.le_trans (List.length_filter_le _ _) ?_
  simp
theorem ok_Kernel (T : Txt K mg a) (h : Has K mg "kernel" sKernel pKernel) (G_reduced_rows : Fd P w K mg base CX0 "reduced_rows" pReducedRows 3 (spReducedRows K)) : Fd P w K mg base CX0 "kernel" pKernel 4 (spKernel K a) := by
  refine h.ok scKernel (fun vs H Q E h => ?_) (fun f cdv A outer s H vs Q E hr h => ?_)
  · obtain ⟨i, G, F, _, ⟨v1, rfl, _⟩, _⟩ := h
    rfl
  · obtain ⟨d, G, F, hA, ⟨v1, rfl, r1, hd⟩, k⟩ := h
    have nd := scKernel.nd
    refine ⟨_, (pss_cons (ps_asg (pe_fd G_reduced_rows (hr.mono (by decide)) (by rfl) (pa_cons (k_fld (K := K) rfl (pv 0) rfl) (pa_cons (k_fld (K := K) rfl (pv 0) rfl) (pa_cons (k_fld (K := K) rfl (pv 0) rfl) pa_nil)))) (k_tup (K := K) rfl rfl (pgs_cons (pg_name (i := 1) nd rfl (by first | exact Or.inl rfl | exact Or.inr rfl)) (pgs_cons (pg_name (i := 2) nd rfl (by first | exact Or.inl rfl | exact Or.inr rfl)) pgs_nil))))
      (pss_cons (ps_set (i := 3) nd rfl (Or.inl rfl) (pe_lst pa_nil))
      (pss_cons (ps_for PassesOwn.never rfl (pi_range1 (by rfl) T.brange (pa_cons (k_fld (K := K) rfl (pv 0) rfl) pa_nil)) (pg_name (i := 4) nd rfl (by first | exact Or.inl rfl | exact Or.inr rfl))
        (pss_one (ps_if (pt_cmpR (k_notIn (K := K) rfl) (pv 4) (pv 2) rfl)
          (pss_cons (ps_setLc (i := 5) (own := [("at", 8)]) (g := (gName 8)) (tt := tYes) rfl nd rfl rfl (sw_true rfl rfl rfl (by decide +kernel)) (pi_range1 (by rfl) T.brange (pa_cons (k_fld (K := K) rfl (pv 0) rfl) pa_nil)) (blkOk_by (N := nKernel) (sc := defScope sKernel) (by decide +kernel)) (fun _ _ _ _ _ => (pg_name (i := 8) nd rfl (by first | exact Or.inl rfl | exact Or.inr rfl))) (fun _ _ _ _ _ => pts_nil) (fun _ _ _ _ _ => (pe_callTy call_int1 (by rfl) T.bint (by decide +kernel) (pa_cons (pe_cmpR op_eq (pv 8) (pv 4) (nomark _)) pa_nil))))
          (pss_cons (ps_for PassesOwn.never rfl (k_zip (K := K) rfl (by rfl) T.bzip (pa_cons (pv 1) (pa_cons (pv 2) pa_nil))) (k_tup (K := K) rfl rfl (pgs_cons (pg_name (i := 6) nd rfl (by first | exact Or.inl rfl | exact Or.inr rfl)) (pgs_cons (pg_name (i := 7) nd rfl (by first | exact Or.inl rfl | exact Or.inr rfl)) pgs_nil)))
            (pss_one (ps_asg (pe_op op_modN (pe_un un_neg (pe_ix (k_ix (K := K) rfl) (pv 6) (pv 4) (fun _ _ => rfl))) (k_fld (K := K) rfl (pv 0) rfl)) (pg_sub (pv 5) (pv 7) set_list))))
          (pss_one (ps_expr (k_bm (K := K) rfl PySem.F.plainAttrs_list PySem.F.slot_list_append PySem.F.type_list_append mt_append (pv 3) (pa_cons (pe_callTy (k_tuple (K := K) rfl) (by rfl) T.btuple (by decide +kernel) (pa_cons (pv 5) pa_nil)) pa_nil))))))
          pss_nil)))
      (pss_one (ps_ret (pe_ix (k_ix (K := K) rfl) (pe_fd G_reduced_rows (hr.mono (by decide)) (by rfl) (pa_cons (k_fld (K := K) rfl (pv 0) rfl) (pa_cons (k_fld (K := K) rfl (pv 0) rfl) (pa_cons (pv 3) pa_nil)))) pe_int (fun _ _ => rfl))))))), ?_⟩
    obtain ⟨hp, hrow, hw, hn⟩ := id hd
    have gd := good hp hrow
    have p1 := hp.pos
    refine s_asg2 (L := no) hA no_sub (ev_reducedT T (ev_var rfl r1) hd) fun vr vp G1 H1 s1 A1 rr rp => ?_
    have hker : ker d.p d.wide d.rows = red d.p d.wide ((freeP d.wide (redS d.p d.wide d.rows).places).map (fcol d.p d.wide (redS d.p d.wide d.rows).found (redS d.p d.wide d.rows).places)) := rfl
    rw [show (fun (i : TabD) G v => RT K (RT K RI) G v (ker i.p i.wide i.rows)) d = fun G v => RT K (RT K RI) G v (ker d.p d.wide d.rows) from rfl, hker] at k
    generalize redS d.p d.wide d.rows = st at rr rp gd k
    refine s_asgF (L := no) A1 no_sub (R := RT K RI) (xs := []) ef_nil fun m ws G2 H2 s2 n1 n2 A2 q2 => ?_
    cases q2
    have r1' := mn (s1.trans s2) r1
    refine s_for (L := no) (n := d.wide) A2 no_sub (ei_rangeN (ev_tWide T (ev_var rfl r1')).ni (by omega))
      (fun i σ G' F' => Same G2 G' ∧ ∃ fs u4 u5 u6 u7, σ = [some v1, some vr, some vp, some (.ref m), u4, u5, u6, u7, none] ∧ F' = upd F m (.lst fs) ∧ Paired (RT K RI G') fs ((freeP i st.places).map (fcol d.p d.wide st.found st.places)))
      (fun G' s => ⟨s, [], none, none, none, none, rfl, rfl, .nil⟩) (fun _ _ _ _ _ => no_sub) ?_ ?_
    · rintro G0 s0 c v σ' G' F' H' hc ⟨s4, fs, u4, u5, u6, u7, rfl, rfl, q⟩ G'' s5 s6 A4 rfl
      have rp' := mn ((s2.trans s4).trans s5) rp
      have rr' := mn ((s2.trans s4).trans s5) rr
      have rt := mn (s4.trans s5) r1'
      have q' := pairedS s5 q
      have lfs : fs.length ≤ 1000 := by
        rw [Paired.len q, List.length_map]
        have := freeP_le st.places c
        omega
      refine s_if (L := no) A4 no_sub (b := !st.places.contains c) (et_test ((ev_inT (neg := true) (n := (c : Int)) (ev_var (R := RI) rfl rfl) (ev_var (R := RT K RN) rfl rp').rtn).is (by rw [contains_cast]; rfl))) (fun hb G5 H5 s7 A5 => ?_) fun hb G5 H5 s7 A5 => ?_
      · -- a free place
        have hcP : c ∉ st.places := by simpa using hb
        refine s_asgF (L := no) A5 no_sub (R := RI) (xs := unitC d.wide c) (ef_lcR (ev_tWide T (ev_var rfl (mn s7 rt))) (by omega) (fun i => if i = c then 1 else 0) fun i u G6 hi s8 q8 => ?_) fun l cv G6 H6 s8 n3 n4 A6 q6 => ?_
        · cases q8
          refine (ev_intB (ev_eqI (i := (i : Int)) (j := (c : Int)) (ev_var (R := RI) rfl rfl) (ev_var (R := RI) rfl rfl))).is ?_
          by_cases e : i = c
          · subst e; simp
          · have : ¬ (i : Int) = (c : Int) := by omega
            simp [e, this]
        have lm : l ≠ m := fun z => by rw [z, upd_same] at n3; cases n3
        have fl : F l = none := by rw [upd_ne lm] at n3; exact n3
        have S1 : Same G'' G6 := s7.trans s8
        have hlen := gd.len
        refine nq ?_
        refine s_for (L := no) (n := st.found.length) A6 no_sub (ei_zipT (ev_var rfl (mn S1 rr')) (ev_var rfl (mn S1 rp')) (by rw [← hlen]; simp))
          (fun i σ G' F' => Same G6 G' ∧ ∃ cv u6 u7, σ = [some v1, some vr, some vp, some (.ref m), some (V.int (c : Int)), some (.ref l), u6, u7, none] ∧ F' = upd (upd F m (.lst fs)) l (.lst cv) ∧ Paired (RI G') cv (((st.found.zip st.places).take i).foldl (fun col rq => col.set rq.2 ((-(ix rq.1 c)) % d.p)) (unitC d.wide c)))
          (fun G' s => ⟨s, cv, _, _, rfl, rfl, pairedS s q6⟩) (fun _ _ _ _ _ => no_sub) ?_ ?_
        · rintro G0' s0' i v σ' G' F' H' hi ⟨s9, cv, u6, u7, rfl, rfl, q9⟩ G7 s10 s11 A7 ⟨row, pl, e1, e2, b, w1, w2, e3, e4, e5, e6⟩
          refine ⟨b, [w1, w2], e3, sqtS A7.g e4, rfl, w1, [w2], rfl, w2, [], rfl, rfl, ?_⟩
          dsimp only at e5 e6
          cases e6
          have hpl : pl < d.wide := gd.plt _ (List.mem_of_getElem? e2)
          have wrow := gd.wf _ (List.mem_of_getElem? e1)
          have hcl : cv.length = d.wide := by
            rw [Paired.len q9]
            exact ((fold_set (p := d.p) (f := c) (w := d.wide) (by omega) _ (unitC d.wide c) (wr_unit p1)).1).1
          refine s_seti (L := no) A7 no_sub (k := 5) rfl (l := l) (vs := cv) upd_same (R := RI) (x := (-(ix row c)) % d.p) (ev_mod (ev_neg (ev_ixT (n := c) (ev_var (R := RT K RI) rfl e5) (ev_var (R := RI) rfl rfl) rfl (ix_some (by rw [wrow.1]; exact hc)))) (ev_tPrime T (ev_var rfl (mn ((S1.trans s9).trans s10) rt))) (by omega)) (ev_var (R := RI) (x := (pl : Int)) rfl rfl) rfl (by omega) fun v8 G8 H8 s12 A8 r8 => ?_
          rw [upd_upd] at A8
          refine ⟨G8, _, s11.trans s12, A8, (s9.trans s10).trans s12, _, _, _, rfl, rfl, ?_⟩
          have ez : (st.found.zip st.places)[i]? = some (row, pl) := by rw [List.getElem?_zip_eq_some]; exact ⟨e1, e2⟩
          rw [List.take_add_one, ez, List.foldl_append]
          exact pset r8 pl (pairedS (s10.trans s12) q9)
        · rintro σ' G' F' H' s9 A7 ⟨s10, cv, u6, u7, rfl, rfl, q9⟩
          have ez : (st.found.zip st.places).take st.found.length = st.found.zip st.places := List.take_of_length_le (by simp [Nat.min_le_left])
          rw [ez] at q9
          have hml : (upd (upd F m (.lst fs)) l (.lst cv)) m = some (.lst fs) := by rw [upd_ne (Ne.symm lm), upd_same]
          refine s_app (L := upd (upd F m (.lst fs)) l (.lst cv)) A7 (Same.refl _) (k := 3) rfl hml (R := RT K RI) (ev_tupM (k := 5) (l := l) (vs := cv) rfl upd_same q9) lfs fun vt G8 H8 s12 A8 r8 => ?_
          have e9 : upd (upd (upd F m (.lst fs)) l (.lst cv)) m (.lst (fs ++ [vt])) = upd (upd F m (.lst (fs ++ [vt]))) l (.lst cv) := by rw [upd_comm lm, upd_upd]
          rw [e9] at A8
          have A9 := A8.gone (by rw [upd_ne lm]; exact fl)
          have S2 : Same G'' G8 := S1.trans (s10.trans s12)
          refine ⟨G8, _, s6.trans S2, A9, (s4.trans s5).trans S2, fs ++ [vt], _, _, _, _, rfl, rfl, ?_⟩
          have hcc : st.places.contains c = false := by simpa using hb
          rw [freeP_succ, hcc]
          simp only [Bool.false_eq_true, if_false, List.map_append, List.map_cons, List.map_nil]
          exact papp (pairedS S2 q') (pone r8)
      · have hcc : st.places.contains c = true := by simpa using hb
        refine ⟨G5, _, s6.trans s7, A5, (s4.trans s5).trans s7, fs, _, _, _, _, rfl, rfl, ?_⟩
        rw [freeP_succ, hcc]
        exact pairedS s7 q'
    · rintro σ' G' F' H' s4 A4 ⟨s5, fs, u4, u5, u6, u7, rfl, rfl, q⟩
      have fm : F m = none := n1
      have A5 := A4.freezeN fm
      have s6 : Same G' (upd G' m (.lst fs)) := same_new (A4.d m _ upd_same)
      have rl : RL K (RT K RI) (upd G' m (.lst fs)) (.ref m) ((freeP d.wide st.places).map (fcol d.p d.wide st.found st.places)) := ⟨m, fs, rfl, .inl (.inl upd_same), pairedS s6 q⟩
      have rt := mn (s5.trans s6) r1'
      have hfl := freeP_le st.places d.wide
      refine s_ret (L := no) A5 no_sub (R := RT K (RT K RI)) (x := red d.p d.wide ((freeP d.wide st.places).map (fcol d.p d.wide st.found st.places))) (ev_ixP0 (ev_reduced (ev_tPrime T (ev_var rfl rt)) (ev_tWide T (ev_var rfl rt)) (ev_var (R := RRows K) rfl (.inr rl)) hp (freeC_wr p1) hw (by rw [List.length_map]; omega))) fun v G6 H6 s7 A6 q6 => ?_
      exact k v G6 H6 ((s1.trans s2).trans ((s5.trans s6).trans s7)) A6 q6
end
end MW

set_option Elab.async false
set_option linter.all false
set_option maxRecDepth 100000
set_option maxHeartbeats 4000000
/-! == of data, of instances by their own __eq__. -/
namespace MW
open PySem PySem.Spec PyProof.Rows L2
/-- values that are plain data -/
class Dat {α : Type} (K : Fg) (R : Rel α) where
  f : α → PyData
  n : Nat
  dp : ∀ {G v x}, R G v x → Dp K G v (f x)
  cl : ∀ x, (f x).canLay0 = true
  de : ∀ x, (f x).depth ≤ n
  eq : ∀ x y, PyData.eqv (f x) (f y) = true ↔ x = y
section
variable {α β γ : Type} {K : Fg} {R : Rel α} {S : Rel β} {T : Rel γ}
theorem dpAll {G : Hp} [D : Dat K R] : ∀ {vs : List V} {xs : List α}, Paired (R G) vs xs → DpAll K G vs (xs.map D.f)
  | _, _, .nil => .nil
  | _, _, .cons r t => .cons (D.dp r) (dpAll t)
theorem clAll [D : Dat K R] : ∀ xs : List α, PyData.canLayAll0 (xs.map D.f) = true
  | [] => rfl
  | x :: xs => by
    rw [List.map_cons, PyData.canLayAll0, D.cl x, clAll xs]
    rfl
theorem deAll [D : Dat K R] : ∀ xs : List α, PyData.depthAll (xs.map D.f) ≤ D.n
  | [] => Nat.zero_le _
  | x :: xs => by
    rw [List.map_cons, PyData.depthAll]
    exact Nat.max_le.mpr ⟨D.de x, deAll xs⟩
theorem eqAll [D : Dat K R] : ∀ xs ys : List α, PyData.eqvAll (xs.map D.f) (ys.map D.f) = true ↔ xs = ys
  | [], [] => by simp [PyData.eqvAll]
  | [], y :: ys => by simp [PyData.eqvAll]
  | x :: xs, [] => by simp [PyData.eqvAll]
  | x :: xs, y :: ys => by
    rw [List.map_cons, List.map_cons, PyData.eqvAll, Bool.and_eq_true, D.eq, eqAll xs ys, List.cons.injEq]
theorem datS {G G' : Hp} (s : Same G G') : (∀ (d : PyData) (v : V), Dp K G v d → Dp K G' v d) := by
  intro d
  refine PyData.rec (motive_1 := fun d => ∀ v : V, Dp K G v d → Dp K G' v d) (motive_2 := fun ds => ∀ vs : List V, DpAll K G vs ds → DpAll K G' vs ds) (motive_3 := fun _ => True) (motive_4 := fun _ => True) ?_ ?_ ?_ ?_ ?_ ?_ ?_ ?_ ?_ ?_ ?_ ?_ d
  all_goals first
    | exact trivial
    | (intros; exact trivial)
    | (intro v h; cases h; first | exact .non | exact .nil)
    | (intro b v h; cases h; first | exact .bl _ | exact .int _ | exact .str _)
    | (intro ds ih v h; cases h with | lst hs ha => exact .lst (sqlS s hs) (ih _ ha))
    | (intro ds ih v h; cases h with | tup hs ha => exact .tup (sqtS s hs) (ih _ ha))
    | (intro ds ih v h; cases h)
    | (intro d ds ih1 ih2 vs h; cases h with | cons h1 h2 => exact .cons (ih1 _ h1) (ih2 _ h2))
instance dRI {K : Fg} : Dat K RI where
  f := .int
  n := 0
  dp := fun {G v x} r => by rw [show v = V.int x from r]; exact .int x
  cl := fun x => rfl
  de := fun x => Nat.le_refl _
  eq := fun x y => by simp [PyData.eqv]
instance dRN {K : Fg} : Dat K RN where
  f := fun n => .int n
  n := 0
  dp := fun {G v x} r => by rw [show v = V.int (x : Int) from r]; exact .int _
  cl := fun x => rfl
  de := fun x => Nat.le_refl _
  eq := fun x y => by simp [PyData.eqv]; omega
instance dRB {K : Fg} : Dat K RB where
  f := .bool
  n := 0
  dp := fun {G v x} r => by rw [show v = V.bl x from r]; exact .bl x
  cl := fun x => rfl
  de := fun x => Nat.le_refl _
  eq := fun x y => by simp [PyData.eqv]
/-- one known word -/
def RW1 (w : Str) : Rel Unit := fun _ v _ => v = .str w
instance {w : Str} : Mn (RW1 w) := ⟨fun _ h => h⟩
instance dRW {K : Fg} : Dat K (RW1 "turn") where
  f := fun _ => .str "turn"
  n := 0
  dp := fun {G v x} r => by rw [show v = V.str "turn" from r]; exact .str _
  cl := fun x => by decide +kernel
  de := fun x => Nat.le_refl _
  eq := fun x y => by simp [PyData.eqv]
instance dRT [D : Dat K R] : Dat K (RT K R) where
  f := fun xs => .tuple (xs.map D.f)
  n := D.n + 1
  dp := fun {G v x} ⟨a, vs, e, hq, p⟩ => by rw [e]; exact .tup hq (dpAll p)
  cl := fun x => by rw [PyData.canLay0]; exact clAll x
  de := fun x => by rw [PyData.depth]; exact Nat.succ_le_succ (deAll x)
  eq := fun x y => by rw [PyData.eqv]; exact eqAll x y
instance dRL [D : Dat K R] : Dat K (RL K R) where
  f := fun xs => .list (xs.map D.f)
  n := D.n + 1
  dp := fun {G v x} ⟨a, vs, e, hq, p⟩ => by rw [e]; exact .lst hq (dpAll p)
  cl := fun x => by rw [PyData.canLay0]; exact clAll x
  de := fun x => by rw [PyData.depth]; exact Nat.succ_le_succ (deAll x)
  eq := fun x y => by rw [PyData.eqv]; exact eqAll x y
instance dRP [D : Dat K R] [E : Dat K S] : Dat K (RP K R S) where
  f := fun x => .tuple [D.f x.1, E.f x.2]
  n := max D.n E.n + 1
  dp := fun {G v x} ⟨a, v1, v2, e, hq, p1, p2⟩ => by rw [e]; exact .tup hq (.cons (D.dp p1) (.cons (E.dp p2) .nil))
  cl := fun x => by simp [PyData.canLay0, PyData.canLayAll0, D.cl, E.cl]
  de := fun x => by
    have h1 := D.de x.1
    have h2 := E.de x.2
    simp only [PyData.depth, PyData.depthAll]
    omega
  eq := fun x y => by
    simp only [PyData.eqv, PyData.eqvAll, Bool.and_true, Bool.and_eq_true, D.eq, E.eq]
    exact ⟨fun h => Prod.ext h.1 h.2, fun h => ⟨congrArg Prod.fst h, congrArg Prod.snd h⟩⟩
instance dR3 [D : Dat K R] [E : Dat K S] [F : Dat K T] : Dat K (R3 K R S T) where
  f := fun x => .tuple [D.f x.1, E.f x.2.1, F.f x.2.2]
  n := max D.n (max E.n F.n) + 1
  dp := fun {G v x} ⟨a, v1, v2, v3, e, hq, p1, p2, p3⟩ => by rw [e]; exact .tup hq (.cons (D.dp p1) (.cons (E.dp p2) (.cons (F.dp p3) .nil)))
  cl := fun x => by simp [PyData.canLay0, PyData.canLayAll0, D.cl, E.cl, F.cl]
  de := fun x => by
    have h1 := D.de x.1
    have h2 := E.de x.2.1
    have h3 := F.de x.2.2
    simp only [PyData.depth, PyData.depthAll]
    omega
  eq := fun x y => by
    obtain ⟨x1, x2, x3⟩ := x
    obtain ⟨y1, y2, y3⟩ := y
    simp [PyData.eqv, PyData.eqvAll, D.eq, E.eq, F.eq]
variable {σ : L2.St} {G L : Hp} {ta tb te : TE} {x y : α}
theorem Dat.sh [D : Dat K R] (h : D.n ≤ 64) (x : α) : SeqAt.shaped (D.f x) = true := by
  unfold SeqAt.shaped
  rw [D.cl x, Bool.true_and]
  exact decide_eq_true (Nat.le_trans (D.de x) h)
theorem ev_eqD [DecidableEq α] [D : Dat K R] [Mn R] (ha : Ev ta σ G L R x) (hb : Ev tb σ G L R y) (hn : D.n ≤ 64) : Ev (tOp (rEqD K) ta tb) σ G L RB (decide (x = y)) :=
  ev_bin ha hb fun v u G1 F H _ _ A r s Q q => by
    refine ⟨D.f x, D.f y, datS A.g _ _ (D.dp r), datS A.g _ _ (D.dp s), D.sh hn x, D.sh hn y, q _ G1 H (Same.refl _) A ?_⟩
    show V.bl _ = V.bl _
    congr 1
    rw [Bool.eq_iff_iff, D.eq, decide_eq_true_iff]
theorem ev_neD [DecidableEq α] [D : Dat K R] [Mn R] (ha : Ev ta σ G L R x) (hb : Ev tb σ G L R y) (hn : D.n ≤ 64) : Ev (tOp (rNeD K) ta tb) σ G L RB (!decide (x = y)) :=
  ev_bin ha hb fun v u G1 F H _ _ A r s Q q => by
    refine ⟨D.f x, D.f y, datS A.g _ _ (D.dp r), datS A.g _ _ (D.dp s), D.sh hn x, D.sh hn y, q _ G1 H (Same.refl _) A ?_⟩
    show V.bl _ = V.bl _
    congr 2
    rw [Bool.eq_iff_iff, D.eq, decide_eq_true_iff]
end

/-! ### instances with an own == -/
def rEqM (K : Fg) (C : Addr) (sp : Sp) : R2 := fun x y H Q => ∃ a dx fs b C' dy gs, x = .ref a ∧ y = .ref b ∧ H a = some (.ins C dx fs) ∧ H b = some (.ins C' dy gs) ∧ PySem.W.notFirst K C (.ref C') = true ∧ sp [x, y] H Q E0
theorem k_eqM {X : Cx} {P : Program} {w : World} {K : Fg} {mg : Str → Option Value} {base : Heap} {C : Addr} {ps : List Str} {k : Nat} {sp : Sp} (M : Md X.prog X.w X.K X.mg X.base CX0 C "__eq__" ps k sp) (hK : X.K = K) (hr : Room k X.A) : OpR X (compareOp .Eq) (rEqM K C sp) := by
  subst hK
  obtain ⟨f, fd, F, hs, hf, _, hb⟩ := M.ex
  intro pins s σ H x y v u Q I rx ry h
  obtain ⟨a, dx, fs, b, C', dy, gs, rfl, rfl, ha, hb', hn, hsp⟩ := h
  cases rx
  cases ry
  obtain ⟨mA, J, _⟩ := ins_get I.hok ha
  obtain ⟨mB, J', _⟩ := ins_get I.hok hb'
  obtain ⟨od, J, _⟩ := J.look
  obtain ⟨od', J', _⟩ := J'.look
  obtain ⟨m, hF⟩ := I.fr
  show wpAny (model X.prog X.w) X.A (richCompare .Eq (.ref a) (.ref b)) (EP X pins σ Q) X.xe s
  refine PySem.W.cmp_K (op := .Eq) (tb := .ref C') hr.units0 hF I.ok.mod.kin J J'.type hn hs hf ?_
  have e0 : Env0 X.prog X.w X.K X.mg X.base X.A X.stack s H := I.env0
  have hl := F.len _ _ _ _ hsp
  have r2 : Vals [V.ref a, V.ref b] [Value.ref a, Value.ref b] := .cons rfl (.cons rfl .nil)
  refine wpAny_call (codeAny_mono (F.run X.A X.stack s H ⟨[.ref a, .ref b], []⟩ [.ref a, .ref b] [.ref a, .ref b] _ E0 hr e0 (by
    have := hb s [.ref a, .ref b] I.kIn (by simpa using hl)
    simpa using this) r2 hsp) fun r s' hq => ?_)
  cases r with
  | error e => exact (pass0 pins σ H s e s' I hq)
  | ok fl =>
    cases fl with
    | ret w =>
      obtain ⟨z, H', I', rz, q⟩ := I.after hq
      exact SlX.cmpback rz ⟨z, H', I', rz, q⟩
    | next => exact False.elim hq
    | brk => exact False.elim hq
    | cont => exact False.elim hq
end MW

set_option Elab.async false
set_option linter.all false
set_option maxRecDepth 100000
set_option maxHeartbeats 4000000
/-! Walks: webs. -/
namespace MW
open PySem PySem.Spec PyProof.Rows L2
section
variable {α β : Type} {K : Fg} {σ : L2.St} {G L : Hp} {ta tb te : TE} {R : Rel α} {S : Rel β} {x : α} {y : β}
/-- a pair of alike, as a tuple -/
theorem RPt {G : Hp} {v : V} {p : α × α} (h : RP K R R G v p) : RT K R G v [p.1, p.2] := let ⟨a, v1, v2, e, q, r1, r2⟩ := h; ⟨a, _, e, q, .cons r1 (.cons r2 .nil)⟩
theorem Ev.pt {p : α × α} (h : Ev ta σ G L (RP K R R) p) : Ev ta σ G L (RT K R) [p.1, p.2] := h.imp fun _ _ q => RPt q
theorem ev_revT [Mn R] [Mn S] {p : α × β} (h : Ev ta σ G L (RP K R S) p) : Ev (tRevT K ta) σ G L (RP K S R) (p.2, p.1) := fun G1 F H s c A Q q =>
  h G1 F H s c A _ fun v G2 H2 s2 A2 ⟨a, v1, v2, e, hq, r1, r2⟩ => ⟨a, v1, v2, e, sqtS A2.g hq, fun p hp => q _ _ _ (s2.trans (same_new (A2.nG hp))) (A2.new hp) ⟨p, v2, v1, rfl, .inl (.inl upd_same), mn (same_new (A2.nG hp)) r2, mn (same_new (A2.nG hp)) r1⟩⟩
/-- enumerate(xs), the number a Nat -/
def enu {α : Type} (xs : List α) : List (Nat × α) := (List.range xs.length).zip xs
theorem enu_len {α : Type} (xs : List α) : (enu xs).length = xs.length := by simp [enu]
theorem enu_get {α : Type} {xs : List α} {i : Nat} {x : α} (h : xs[i]? = some x) : (enu xs)[i]? = some (i, x) := by
  unfold enu
  rw [List.getElem?_zip_eq_some]
  have := (List.getElem?_eq_some_iff.mp h).1
  exact ⟨by simp [this], h⟩
theorem enu_fl {α : Type} (d : α) (q : α → Bool) (xs : List α) : ((enu xs).filter fun x => q x.2).map (fun x => x.1) = (List.range xs.length).filter fun i => q (xs.getD i d) := by
  have e : enu xs = (List.range xs.length).map fun i => (i, xs.getD i d) := by
    apply List.ext_getElem
    · simp [enu]
    · intro i h1 h2
      have : i < xs.length := by rw [enu_len] at h1; exact h1
      simp [enu, this]
  rw [e, List.filter_map, List.map_map]
  have e2 : ((fun x : Nat × α => x.1) ∘ fun i => (i, xs.getD i d)) = id := rfl
  rw [e2, List.map_id]
  rfl
theorem ei_enu [Mn R] {xs : List α} (h : Ev ta σ G L (RT K R) xs) : EvI (iEnumT K (tCons ta tNil)) σ G L (enu xs).length (fun i G' v => ∃ x, (enu xs)[i]? = some x ∧ RP K RN R G' v x) := by
  rw [enu_len]
  have q := ei_enumT h
  intro G1 F H s c A R' k
  refine q G1 F H s c A R' fun J G2 H2 s2 A2 ok => k J G2 H2 s2 A2 ⟨ok.go, ok.stop, fun i H x H' G3 F' hi s3 s4 A3 y => ?_⟩
  obtain ⟨G4, s5, A4, z, e, a, v1, v2, e1, e2, e3, e4⟩ := ok.yld i H x H' G3 F' hi s3 s4 A3 y
  exact ⟨G4, s5, A4, (i, z), enu_get e, a, v1, v2, e1, e2, e3, e4⟩
end
theorem natEq (m n : Nat) : decide ((m : Int) = (n : Int)) = (m == n) := by
  by_cases h : m = n
  · subst h; simp
  · have : ¬ (m : Int) = (n : Int) := by omega
    rw [beq_eq_false_iff_ne.mpr h, decide_eq_false this]
/-! ### webs -/
def ar (d : WebD) (i : Nat) : Nat × Nat := d.arrows.getD i (0, 0)
def begW (d : WebD) (q : Nat) : List Nat := (List.range d.arrows.length).filter fun i => (ar d i).1 == q
def endW (d : WebD) (q : Nat) : List Nat := (List.range d.arrows.length).filter fun i => (ar d i).2 == q
def isE (d : WebD) (q : Nat) : Bool := (begW d q).length == 0
def isB (d : WebD) (q : Nat) : Bool := !isE d q && ((endW d q).length == 0)
def xn (x : Option Int) : Nat := (x.getD 0).toNat
def isEO (d : WebD) (x : Option Int) : Bool := inR x 0 ((d.many : Int) - 1) && isE d (xn x)
def isBO (d : WebD) (x : Option Int) : Bool := inR x 0 ((d.many : Int) - 1) && isB d (xn x)
theorem inR_some {x : Option Int} {m : Int} (h : inR x 0 m = true) : x = some (xn x : Int) ∧ (xn x : Int) ≤ m := by
  cases x with
  | none => cases h
  | some n =>
    simp [inR] at h
    unfold xn
    simp only [Option.getD_some, Option.some.injEq]
    omega
def turnA (q : Nat) (p : Nat × Nat) : Nat × Nat := if [p.1, p.2].contains q then (p.2, p.1) else p
def turnW (d : WebD) (q : Nat) : WebD := ⟨d.many, d.arrows.map (turnA q)⟩
/-- a web within its bounds -/
structure okWeb (d : WebD) : Prop where
  m1 : 1 ≤ d.many
  m2 : d.many ≤ 8
  a : d.arrows.length ≤ 12
  b : ∀ p ∈ d.arrows, p.1 < d.many ∧ p.2 < d.many
section
variable {P : Program} {w : World} {K : Fg} {mg : Str → Option Value} {base : Heap} {a : Adr}
/-- the attributes of a web -/
def fsWeb (K : Fg) (d : WebD) (G : Hp) (fs : List (Str × V)) : Prop := fs.lookup ("many" : Str) = some (.int d.many) ∧ ∃ r, fs.lookup ("arrows" : Str) = some r ∧ RT K (RP K RN RN) G r d.arrows
def preWeb (K : Fg) (d : WebD) (G : Hp) (ws : List V) : Prop := ∃ v1 v2, ws = [v1, v2] ∧ RN G v1 d.many ∧ RT K (RP K RN RN) G v2 d.arrows
theorem fsWeb_mn {d : WebD} {G G' : Hp} {fs : List (Str × V)} (s : Same G G') (h : fsWeb K d G fs) : fsWeb K d G' fs := ⟨h.1, let ⟨r, e, q⟩ := h.2; ⟨r, e, mn s q⟩⟩
theorem ev_isWithin {σ : L2.St} {G L : Hp} {ta tb tc : TE} {x : Option Int} {lo hi : Int} {E : XK} (h1 : Ev ta σ G L (RO K) x) (h2 : Ev tb σ G L RI lo) (h3 : Ev tc σ G L RI hi) : Ev (tCall (spIsWithin K) [] E (tCons ta (tCons tb (tCons tc tNil)))) σ G L RB (inR x lo hi) :=
  ev_call (x, lo, hi) (ea3 h1 h2 h3) (fun G' vs s q => q) fun _ _ _ q => q

/-! Web.__init__ -/
-- 0 self 1 many 2 arrows 3 index 4 arrow 5 at; cells many
abbrev sWebInit : Stmt := inClass (top 31) 0
abbrev nWebInit : List Str := ["self", "many", "arrows", "index", "arrow", "at"]
abbrev pWebInit : List Str := ["self", "many", "arrows"]
theorem scWebInit : FnScope nWebInit pWebInit (defScope sWebInit) := ⟨rfl, rfl, rfl, by decide +kernel, rfl, by decide +kernel, by decide +kernel⟩
theorem ok_WebInit (T : Txt K mg a) (h : HasM K a.Wb "__init__" "Web.__init__" sWebInit pWebInit) (G_is_within : Fd P w K mg base CX0 "is_within" pIsWithin 2 (spIsWithin K)) (G_is_number : Fd P w K mg base CX0 "is_number" pIsNumber 3 (spIsNumber K)) :
    Md P w K mg base CX0 a.Wb "__init__" pWebInit 4 (SpI a.Wb (fun d G ws => preWeb K d G ws ∧ okWeb d) (fsWeb K)) := by
  refine h.ok scWebInit (fun vs H Q E h => ?_) (fun f cdv A outer s H vs Q E hr h => ?_)
  · obtain ⟨i, G, F, x, dx, ws, rfl, _, _, ⟨⟨v1, v2, rfl, _⟩, _⟩, _⟩ := h
    rfl
  · obtain ⟨d, G, F, x, dx, ws, rfl, hA, hx, ⟨⟨v1, v2, rfl, r1, r2⟩, ok⟩, k⟩ := h
    have nd := scWebInit.nd
    refine ⟨_, (pss_cons (ps_if (pt_not (pt_val (pe_fd G_is_within (hr.mono (by decide)) (by rfl) (pa_cons (pv 1) (pa_cons pe_int (pa_cons (pe_gint (by rfl) T.MOST_PLACES) pa_nil))))))
        (pss_one ps_never)
        pss_nil)
      (pss_cons (ps_if (PW.pt (pw_or (pt_not (pt_val (pe_callB (k_isi (K := K) rfl) (by rfl) T.bisinstance (by decide +kernel) (pa_cons (pv 2) (pa_cons (pe_bltn (v := .ty "tuple") (by rfl) T.btuple (by decide +kernel) rfl) pa_nil))))) (pw_or1 (pt_cmpR op_gt (pe_callB (k_len (K := K) rfl) (by rfl) T.blen PySem.boot_len (pa_cons (pv 2) pa_nil)) (pe_gint (by rfl) T.MOST_ARROWS) (nomark _)))))
        (pss_one ps_never)
        pss_nil)
      (pss_cons (ps_for PassesOwn.never rfl (k_enumT (K := K) rfl (by rfl) T.benumerate (pa_cons (pv 2) pa_nil)) (k_tup (K := K) rfl rfl (pgs_cons (pg_name (i := 3) nd rfl (by first | exact Or.inl rfl | exact Or.inr rfl)) (pgs_cons (pg_name (i := 4) nd rfl (by first | exact Or.inl rfl | exact Or.inr rfl)) pgs_nil)))
        (pss_one (ps_if (PW.pt (pw_or (pt_not (pt_val (pe_callB (k_isi (K := K) rfl) (by rfl) T.bisinstance (by decide +kernel) (pa_cons (pv 4) (pa_cons (pe_bltn (v := .ty "tuple") (by rfl) T.btuple (by decide +kernel) rfl) pa_nil))))) (pw_or (pt_cmpR op_ne (pe_callB (k_len (K := K) rfl) (by rfl) T.blen PySem.boot_len (pa_cons (pv 4) pa_nil)) pe_int (nomark _)) (pw_or1 (pt_not (pt_val (pe_callB (k_all (K := K) rfl rfl) (by rfl) T.ball (by decide +kernel) (pa_cons (pe_lc (own := [("at", 5)]) (g := (gName 5)) (tt := tYes) rfl nd (k_seq (K := K) rfl (pv 4)) (blkOk_by (N := nWebInit) (sc := defScope sWebInit) (by decide +kernel)) (fun _ _ _ _ _ => (pg_name (i := 5) nd rfl (by first | exact Or.inl rfl | exact Or.inr rfl))) (fun _ _ _ _ _ => pts_nil) (fun _ _ _ _ _ => (pe_fd G_is_number (hr.mono (by decide)) (by rfl) (pa_cons (pv 5) (pa_cons (pe_op op_sub (pv 1) pe_int) pa_nil))))) pa_nil))))))))
          (pss_one ps_never)
          pss_nil)))
      (pss_cons (k_sfld (K := K) rfl (pv 0) (pv 1) rfl)
      (pss_one (k_sfld (K := K) rfl (pv 0) (pv 2) rfl)))))), ?_⟩
    obtain ⟨m1, m2, ha, hb⟩ := id ok
    refine s_no (L := no) hA no_sub ((et_not (et_B (b := true) ((ev_isWithin (Ev.ro (ev_var (R := RN) (x := d.many) rfl r1).ni) (ev_i (n := 1)) (ev_i (n := 8))).is (inR_nat (by omega))))).is rfl) fun G1 H1 s1 A1 => ?_
    have r2' := mn s1 r2
    refine s_no (L := no) A1 no_sub ((et_or (a := false) (b := false) ((et_not (et_B (b := true) (ev_isTup (ev_var rfl r2')))).is rfl) fun _ => et_test ((ev_cmp (f := fun i j => decide (j < i)) (ev_lenT (ev_var rfl r2')) (ev_i (n := 12))).is (by simp; omega))).is rfl) fun G2 H2 s2 A2 => ?_
    refine s_for (L := no) A2 no_sub (ei_enumT (ev_var (R := RT K (RP K RN RN)) rfl (mn s2 r2'))) (fun i σ G' F' => F' = F ∧ Same G2 G' ∧ ∃ u1 u2, σ = [some (.ref x), some v1, some v2, u1, u2, none]) (fun G' s => ⟨rfl, s, none, none, rfl⟩) (fun _ _ _ _ _ => no_sub) ?_ ?_
    · rintro G0 s0 i v σ' G' F' H' hi ⟨rfl, s4, u1, u2, rfl⟩ G'' s5 s6 A4 ⟨r, er, b, w1, w2, e1, e2, e3, e4⟩
      refine ⟨b, [w1, w2], e1, sqtS A4.g e2, rfl, w1, [w2], rfl, w2, [], rfl, rfl, ?_⟩
      dsimp only at e4
      have hbr := hb r (List.mem_of_getElem? er)
      refine s_no (L := no) A4 no_sub ((et_or (a := false) (b := false) ((et_not (et_B (b := true) (ev_isTupP (ev_var (R := RP K RN RN) rfl e4)))).is rfl) fun _ => (et_or (a := false) (b := false) (et_test (ev_neI (i := 2) (j := 2) (ev_lenT (xs := [r.1, r.2]) (ev_var (R := RT K RN) rfl (RPt e4))) (ev_i (n := 2)))) fun _ => (et_not (et_B (b := true) ?_)).is rfl).is rfl).is rfl) fun G5 H5 s7 A5 => ?_
      · refine (ev_all (EvF.ev (ef_lcX (S := RB) (ei_seqT (ev_var (R := RT K RN) rfl (RPt e4))) (fun x => inR (some (x : Int)) 0 ((d.many : Int) - 1)) (by simp) fun x v G' hx s q => ev_isNumber (Ev.ro (ev_var (R := RN) rfl q).ni) (ev_sub (ev_var (R := RN) rfl (mn (((s1.trans s2).trans (s4.trans s5)).trans s) r1)).ni ev_i)))).is ?_
        simp [inR]
        omega
      · exact ⟨G5, F', s6.trans s7, A5, rfl, (s4.trans s5).trans s7, _, _, rfl⟩
    · rintro σ' G' F' H' s4 A4 ⟨rfl, s5, u1, u2, rfl⟩
      refine s_fld (L := no) A4 no_sub rfl hx (ev_var (R := RN) rfl (mn ((s1.trans s2).trans s5) r1)) T.cWb.cl T.nWb.1 (by decide) fun w1 G5 H5 s6 A5 q1 => ?_
      refine s_fld (L := no) A5 no_sub rfl upd_same (ev_var (R := RT K (RP K RN RN)) rfl (mn (s2.trans (s5.trans s6)) r2')) T.cWb.cl T.nWb.2 f1_lt fun w2 G6 H6 s7 A6 q2 => ?_
      rw [upd_upd] at A6
      refine k G6 H6 _ (((s1.trans s2).trans s4).trans (s6.trans s7)) A6 ?_
      cases q1
      exact ⟨rfl, w2, rfl, q2⟩

/-! RawWeb.__init__ -/
-- 0 self 1 many 2 arrows; cells 
abbrev sRawWebInit : Stmt := inClass (top 32) 0
abbrev nRawWebInit : List Str := ["self", "many", "arrows"]
abbrev pRawWebInit : List Str := ["self", "many", "arrows"]
theorem scRawWebInit : FnScope nRawWebInit pRawWebInit (defScope sRawWebInit) := ⟨rfl, rfl, rfl, by decide +kernel, rfl, by decide +kernel, by decide +kernel⟩
theorem ok_RawWebInit (T : Txt K mg a) (h : HasM K a.RWb "__init__" "RawWeb.__init__" sRawWebInit pRawWebInit) : Md P w K mg base CX0 a.RWb "__init__" pRawWebInit 1 (SpI a.RWb (preWeb K) (fsWeb K)) := by
  refine h.ok scRawWebInit (fun vs H Q E h => ?_) (fun f cdv A outer s H vs Q E hr h => ?_)
  · obtain ⟨i, G, F, x, dx, ws, rfl, _, _, ⟨v1, v2, rfl, _⟩, _⟩ := h
    rfl
  · obtain ⟨d, G, F, x, dx, ws, rfl, hA, hx, ⟨v1, v2, rfl, r1, r2⟩, k⟩ := h
    have nd := scRawWebInit.nd
    refine ⟨_, (pss_cons (k_sfld (K := K) rfl (pv 0) (pv 1) rfl)
      (pss_one (k_sfld (K := K) rfl (pv 0) (pv 2) rfl))), ?_⟩
    refine s_fld (L := no) hA no_sub rfl hx (ev_var (R := RN) rfl r1) T.cRWb.cl T.nRWb.1 (by decide) fun w1 G5 H5 s6 A5 q1 => ?_
    refine s_fld (L := no) A5 no_sub rfl upd_same (ev_var (R := RT K (RP K RN RN)) rfl (mn s6 r2)) T.cRWb.cl T.nRWb.2 f1_lt fun w2 G6 H6 s7 A6 q2 => ?_
    rw [upd_upd] at A6
    refine k G6 H6 _ (s6.trans s7) A6 ?_
    cases q1
    exact ⟨rfl, w2, rfl, q2⟩
theorem ev_rawWeb (d : WebD) {σ : L2.St} {G L : Hp} {ta tb : TE} {E : XK} (h1 : Ev ta σ G L RN d.many) (h2 : Ev tb σ G L (RT K (RP K RN RN)) d.arrows) : Ev (tMake a.RWb (SpI a.RWb (preWeb K) (fsWeb K)) [] E (tCons ta (tCons tb tNil))) σ G L (RWeb K a) d :=
  ev_mk d (ea2 h1 h2) (fun G' vs s q => q) (fun _ _ _ s q => fsWeb_mn s q) fun G' x dx fl s ⟨e1, r, e4, e5⟩ hx => ⟨x, _, dx, fl, r, rfl, .inr rfl, hx, e1, e4, e5⟩
/-- Web(many, arrows) -/
theorem ev_web (d : WebD) {σ : L2.St} {G L : Hp} {ta tb : TE} {E : XK} (ok : okWeb d) (h1 : Ev ta σ G L RN d.many) (h2 : Ev tb σ G L (RT K (RP K RN RN)) d.arrows) : Ev (tMake a.Wb (SpI a.Wb (fun d G ws => preWeb K d G ws ∧ okWeb d) (fsWeb K)) [] E (tCons ta (tCons tb tNil))) σ G L (RWeb K a) d :=
  ev_mk d (ea2 h1 h2) (fun G' vs s q => ⟨q, ok⟩) (fun _ _ _ s q => fsWeb_mn s q) fun G' x dx fl s ⟨e1, r, e4, e5⟩ hx => ⟨x, _, dx, fl, r, rfl, .inl rfl, hx, e1, e4, e5⟩

theorem tyIns {C : Addr} {G : Hp} {x dx : Addr} {fs : List (Str × V)} {n : Str} (T : Txt K mg a) (c : Cl K mg n C) (h : G x = some (.ins C dx fs)) : TyX K G (.ref x) (.ref C) := .base (.ins h c.cl c.cc T.cget T.ctk c.mro)
theorem ev_isWeb (T : Txt K mg a) {σ : L2.St} {G L : Hp} {ta : TE} {d : WebD} (h : Ev ta σ G L (RWeb K a) d) : Ev (tCB (rIsi K) (tCons ta (tCons (tC (.ref a.Wb)) tNil))) σ G L RB true :=
  ev_isi h (.own a.Wb) fun G v ⟨x, C, dx, fs, r, e, hC, hx, _⟩ => by
    subst e
    rcases hC with e | e
    · subst e; exact ⟨_, tyIns T T.cWb hx, T.kWb⟩
    · subst e; exact ⟨_, tyIns T T.cRWb hx, T.kRWb⟩

/-! Web.__eq__ -/
-- 0 self 1 other; cells 
abbrev sWebEq : Stmt := inClass (top 31) 1
abbrev nWebEq : List Str := ["self", "other"]
abbrev pWebEq : List Str := ["self", "other"]
theorem scWebEq : FnScope nWebEq pWebEq (defScope sWebEq) := ⟨rfl, rfl, rfl, by decide +kernel, rfl, by decide +kernel, by decide +kernel⟩
instance : DecidableEq WebD := fun x y => by
  obtain ⟨m, a⟩ := x
  obtain ⟨n, b⟩ := y
  exact decidable_of_iff (m = n ∧ a = b) (by simp)
def spWebEq (K : Fg) (a : Adr) : Sp := SpP (ι := WebD × WebD) (fun i G vs => ∃ v1 v2, vs = [v1, v2] ∧ RWeb K a G v1 i.1 ∧ RWeb K a G v2 i.2) (fun i G v => RB G v (decide (i.1 = i.2)))
theorem ok_WebEq (T : Txt K mg a) (h : HasM K a.RWb "__eq__" "Web.__eq__" sWebEq pWebEq) : Md P w K mg base CX0 a.RWb "__eq__" pWebEq 1 (spWebEq K a) := by
  refine h.ok scWebEq (fun vs H Q E h => ?_) (fun f cdv A outer s H vs Q E hr h => ?_)
  · obtain ⟨i, G, F, _, ⟨v1, v2, rfl, _⟩, _⟩ := h
    rfl
  · obtain ⟨⟨d, e⟩, G, F, hA, ⟨v1, v2, rfl, r1, r2⟩, k⟩ := h
    dsimp only at r1 r2
    have nd := scWebEq.nd
    refine ⟨_, (pss_one (ps_ret (pe_and (pe_callB (k_isi (K := K) rfl) (by rfl) T.bisinstance (by decide +kernel) (pa_cons (pv 1) (pa_cons (pe_glob (v := .ref a.Wb) (by rfl) T.cWb.mg rfl) pa_nil))) (pe_one (pe_cmpR (k_eqD (K := K) rfl hr.units) (pe_tup (pa_cons (k_fld (K := K) rfl (pv 0) rfl) (pa_cons (k_fld (K := K) rfl (pv 0) rfl) pa_nil))) (pe_tup (pa_cons (k_fld (K := K) rfl (pv 1) rfl) (pa_cons (k_fld (K := K) rfl (pv 1) rfl) pa_nil))) (nomark _)))))), ?_⟩
    refine s_ret (L := no) hA no_sub (R := RB) (x := decide (d = e)) (Ev.is (ev_andV (a := true) (b := decide ((d.many, d.arrows) = (e.many, e.arrows))) (ev_isWeb T (ev_var rfl r2)) fun _ => ?_) ?_) fun v G' H' s A q => k v G' H' s A q
    · exact ev_eqD (R := RP K RN (RT K (RP K RN RN))) (ev_tup2 (ev_wMany T (ev_var rfl r1)) (ev_wArr T (ev_var rfl r1))) (ev_tup2 (ev_wMany T (ev_var rfl r2)) (ev_wArr T (ev_var rfl r2))) (Nat.le_of_ble_eq_true rfl)
    · obtain ⟨m, a⟩ := d
      obtain ⟨n, b⟩ := e
      simp
/-- x == y of webs, the left one raw -/
def RRaw (K : Fg) (a : Adr) : Rel WebD := fun G v d => RWeb K a G v d ∧ ∃ x dx fs, v = .ref x ∧ G x = some (.ins a.RWb dx fs)
instance {K : Fg} {a : Adr} : Mn (RRaw K a) := ⟨fun e ⟨h, x, dx, fs, h1, h2⟩ => ⟨mn e h, x, dx, fs, h1, e _ _ h2⟩⟩
theorem ev_rawWebR (d : WebD) {σ : L2.St} {G L : Hp} {ta tb : TE} {E : XK} (h1 : Ev ta σ G L RN d.many) (h2 : Ev tb σ G L (RT K (RP K RN RN)) d.arrows) : Ev (tMake a.RWb (SpI a.RWb (preWeb K) (fsWeb K)) [] E (tCons ta (tCons tb tNil))) σ G L (RRaw K a) d :=
  ev_mk d (ea2 h1 h2) (fun G' vs s q => q) (fun _ _ _ s q => fsWeb_mn s q) fun G' x dx fl s ⟨e1, r, e4, e5⟩ hx => ⟨⟨x, _, dx, fl, r, rfl, .inr rfl, hx, e1, e4, e5⟩, x, dx, fl, rfl, hx⟩
theorem ev_eqW (T : Txt K mg a) {σ : L2.St} {G L : Hp} {ta tb : TE} {d e : WebD} (h1 : Ev ta σ G L (RRaw K a) d) (h2 : Ev tb σ G L (RWeb K a) e) : Ev (tOp (rEqM K a.RWb (spWebEq K a)) ta tb) σ G L RB (decide (d = e)) :=
  ev_bin h1 h2 fun v u G1 F H _ _ A r s Q q => by
    obtain ⟨r, x, dx, fs, e1, e2⟩ := r
    obtain ⟨y, C, dy, gs, z, e3, hC, e4, e5⟩ := id s
    refine ⟨x, dx, fs, y, C, dy, gs, e1, e3, A.g _ _ e2, A.g _ _ e4, ?_, (d, e), G1, F, A, ⟨v, u, rfl, r, s⟩, q⟩
    rcases hC with e | e
    · rw [e]; exact T.nfW
    · rw [e]; exact T.nfR

/-! begins_at -/
-- 0 web 1 place 2 index 3 arrow; cells place
abbrev sBeginsAt : Stmt := top 33
abbrev nBeginsAt : List Str := ["web", "place", "index", "arrow"]
abbrev pBeginsAt : List Str := ["web", "place"]
theorem scBeginsAt : FnScope nBeginsAt pBeginsAt (defScope sBeginsAt) := ⟨rfl, rfl, rfl, by decide +kernel, rfl, by decide +kernel, by decide +kernel⟩
def spBeginsAt (K : Fg) (a : Adr) : Sp := SpP (ι := WebD × Nat) (fun i G vs => ∃ v1 v2, vs = [v1, v2] ∧ RWeb K a G v1 i.1 ∧ RN G v2 i.2 ∧ i.1.arrows.length ≤ 1000) (fun i G v => RL K RN G v (begW i.1 i.2))
theorem ok_BeginsAt (T : Txt K mg a) (h : Has K mg "begins_at" sBeginsAt pBeginsAt) : Fd P w K mg base CX0 "begins_at" pBeginsAt 1 (spBeginsAt K a) := by
  refine h.ok scBeginsAt (fun vs H Q E h => ?_) (fun f cdv A outer s H vs Q E hr h => ?_)
  · obtain ⟨i, G, F, _, ⟨v1, v2, rfl, _⟩, _⟩ := h
    rfl
  · obtain ⟨⟨d, q⟩, G, F, hA, ⟨v1, v2, rfl, r1, r2, hl⟩, k⟩ := h
    dsimp only at r1 r2 hl
    have nd := scBeginsAt.nd
    refine ⟨_, (pss_one (ps_ret (pe_lc (own := [("index", 2), ("arrow", 3)]) (g := (gTup K 2 (gCons (gName 2) (gCons (gName 3) gNil)))) (tt := _) rfl nd (k_enumT (K := K) rfl (by rfl) T.benumerate (pa_cons (k_fld (K := K) rfl (pv 0) rfl) pa_nil)) (blkOk_by (N := nBeginsAt) (sc := defScope sBeginsAt) (by decide +kernel)) (fun _ _ _ _ _ => (k_tup (K := K) rfl rfl (pgs_cons (pg_name (i := 2) nd rfl (by first | exact Or.inl rfl | exact Or.inr rfl)) (pgs_cons (pg_name (i := 3) nd rfl (by first | exact Or.inl rfl | exact Or.inr rfl)) pgs_nil)))) (fun _ _ _ _ _ => (pts_one (pt_cmpR op_eq (pe_ix (k_ix (K := K) rfl) (pv 3) pe_int (fun _ _ => rfl)) (pv 1) (nomark _)))) (fun _ _ _ _ _ => (pv 2))))), ?_⟩
    refine s_ret (L := no) hA no_sub (R := RL K RN) (x := begW d q) ((EvF.ev (ef_lcPF (ei_enu (ev_wArr T (ev_var rfl r1))) (fun x => x.2.1 == q) (fun x => x.1) (by rw [enu_len]; omega) (fun x u1 u2 G' hx s q1 q2 => ?_) fun x u1 u2 G' hx _ s q1 q2 => ev_var rfl q1)).is (enu_fl (0, 0) (fun p => p.1 == q) d.arrows)) fun v G' H' s A q => k v G' H' s A q
    exact et_test ((ev_eqI (i := (x.2.1 : Int)) (j := (q : Int)) (ev_ixP0 (ev_var (R := RP K RN RN) rfl q2)).ni (ev_var (R := RN) rfl (mn s r2)).ni).is (natEq _ _))

/-! ends_at -/
-- 0 web 1 place 2 index 3 arrow; cells place
abbrev sEndsAt : Stmt := top 34
abbrev nEndsAt : List Str := ["web", "place", "index", "arrow"]
abbrev pEndsAt : List Str := ["web", "place"]
theorem scEndsAt : FnScope nEndsAt pEndsAt (defScope sEndsAt) := ⟨rfl, rfl, rfl, by decide +kernel, rfl, by decide +kernel, by decide +kernel⟩
def spEndsAt (K : Fg) (a : Adr) : Sp := SpP (ι := WebD × Nat) (fun i G vs => ∃ v1 v2, vs = [v1, v2] ∧ RWeb K a G v1 i.1 ∧ RN G v2 i.2 ∧ i.1.arrows.length ≤ 1000) (fun i G v => RL K RN G v (endW i.1 i.2))
theorem ok_EndsAt (T : Txt K mg a) (h : Has K mg "ends_at" sEndsAt pEndsAt) : Fd P w K mg base CX0 "ends_at" pEndsAt 1 (spEndsAt K a) := by
  refine h.ok scEndsAt (fun vs H Q E h => ?_) (fun f cdv A outer s H vs Q E hr h => ?_)
  · obtain ⟨i, G, F, _, ⟨v1, v2, rfl, _⟩, _⟩ := h
    rfl
  · obtain ⟨⟨d, q⟩, G, F, hA, ⟨v1, v2, rfl, r1, r2, hl⟩, k⟩ := h
    dsimp only at r1 r2 hl
    have nd := scEndsAt.nd
    refine ⟨_, (pss_one (ps_ret (pe_lc (own := [("index", 2), ("arrow", 3)]) (g := (gTup K 2 (gCons (gName 2) (gCons (gName 3) gNil)))) (tt := _) rfl nd (k_enumT (K := K) rfl (by rfl) T.benumerate (pa_cons (k_fld (K := K) rfl (pv 0) rfl) pa_nil)) (blkOk_by (N := nEndsAt) (sc := defScope sEndsAt) (by decide +kernel)) (fun _ _ _ _ _ => (k_tup (K := K) rfl rfl (pgs_cons (pg_name (i := 2) nd rfl (by first | exact Or.inl rfl | exact Or.inr rfl)) (pgs_cons (pg_name (i := 3) nd rfl (by first | exact Or.inl rfl | exact Or.inr rfl)) pgs_nil)))) (fun _ _ _ _ _ => (pts_one (pt_cmpR op_eq (pe_ix (k_ix (K := K) rfl) (pv 3) pe_int (fun _ _ => rfl)) (pv 1) (nomark _)))) (fun _ _ _ _ _ => (pv 2))))), ?_⟩
    refine s_ret (L := no) hA no_sub (R := RL K RN) (x := endW d q) ((EvF.ev (ef_lcPF (ei_enu (ev_wArr T (ev_var rfl r1))) (fun x => x.2.2 == q) (fun x => x.1) (by rw [enu_len]; omega) (fun x u1 u2 G' hx s q1 q2 => ?_) fun x u1 u2 G' hx _ s q1 q2 => ev_var rfl q1)).is (enu_fl (0, 0) (fun p => p.2 == q) d.arrows)) fun v G' H' s A q => k v G' H' s A q
    exact et_test ((ev_eqI (i := (x.2.2 : Int)) (j := (q : Int)) (ev_ixP1 (ev_var (R := RP K RN RN) rfl q2)).ni (ev_var (R := RN) rfl (mn s r2)).ni).is (natEq _ _))
theorem ROn {G : Hp} {v : V} {x : Option Int} {m : Int} (h : RO K G v x) (e : inR x 0 m = true) : RN G v (xn x) := by
  have q := (inR_some e).1
  rw [q] at h
  exact h

/-! is_end -/
-- 0 web 1 place; cells 
abbrev sIsEnd : Stmt := top 35
abbrev nIsEnd : List Str := ["web", "place"]
abbrev pIsEnd : List Str := ["web", "place"]
theorem scIsEnd : FnScope nIsEnd pIsEnd (defScope sIsEnd) := ⟨rfl, rfl, rfl, by decide +kernel, rfl, by decide +kernel, by decide +kernel⟩
def spIsEnd (K : Fg) (a : Adr) : Sp := SpP (ι := WebD × Option Int) (fun i G vs => ∃ v1 v2, vs = [v1, v2] ∧ RWeb K a G v1 i.1 ∧ RO K G v2 i.2 ∧ i.1.arrows.length ≤ 1000) (fun i G v => RB G v (isEO i.1 i.2))
theorem ok_IsEnd (T : Txt K mg a) (h : Has K mg "is_end" sIsEnd pIsEnd) (G_is_number : Fd P w K mg base CX0 "is_number" pIsNumber 3 (spIsNumber K)) (G_begins_at : Fd P w K mg base CX0 "begins_at" pBeginsAt 1 (spBeginsAt K a)) : Fd P w K mg base CX0 "is_end" pIsEnd 4 (spIsEnd K a) := by
  refine h.ok scIsEnd (fun vs H Q E h => ?_) (fun f cdv A outer s H vs Q E hr h => ?_)
  · obtain ⟨i, G, F, _, ⟨v1, v2, rfl, _⟩, _⟩ := h
    rfl
  · obtain ⟨⟨d, x⟩, G, F, hA, ⟨v1, v2, rfl, r1, r2, hl⟩, k⟩ := h
    dsimp only at r1 r2 hl
    have nd := scIsEnd.nd
    refine ⟨_, (pss_one (ps_ret (pe_and (pe_fd G_is_number (hr.mono (by decide)) (by rfl) (pa_cons (pv 1) (pa_cons (pe_op op_sub (k_fld (K := K) rfl (pv 0) rfl) pe_int) pa_nil))) (pe_one (pe_cmpR op_eq (pe_callB (k_len (K := K) rfl) (by rfl) T.blen PySem.boot_len (pa_cons (pe_fd G_begins_at (hr.mono (by decide)) (by rfl) (pa_cons (pv 0) (pa_cons (pv 1) pa_nil))) pa_nil)) pe_int (nomark _)))))), ?_⟩
    refine s_ret (L := no) hA no_sub (R := RB) (x := isEO d x) (ev_andV (a := inR x 0 ((d.many : Int) - 1)) (b := isE d (xn x)) (ev_isNumber (ev_var rfl r2) (ev_sub (ev_wMany T (ev_var rfl r1)).ni ev_i)) fun hx => ?_) fun v G' H' s A q => k v G' H' s A q
    exact (ev_eqI (i := ((begW d (xn x)).length : Int)) (j := 0) (ev_lenL (ev_call (R := RL K RN) (d, xn x) (ea2 (ev_var (R := RWeb K a) rfl r1) (ev_var (R := RN) rfl (ROn r2 hx))) (fun G' vs s ⟨z1, z2, e, q1, q2⟩ => ⟨z1, z2, e, q1, q2, hl⟩) fun _ _ _ q => q)) ev_i).is (natEq _ 0)

/-! is_begin -/
-- 0 web 1 place; cells 
abbrev sIsBegin : Stmt := top 36
abbrev nIsBegin : List Str := ["web", "place"]
abbrev pIsBegin : List Str := ["web", "place"]
theorem scIsBegin : FnScope nIsBegin pIsBegin (defScope sIsBegin) := ⟨rfl, rfl, rfl, by decide +kernel, rfl, by decide +kernel, by decide +kernel⟩
def spIsBegin (K : Fg) (a : Adr) : Sp := SpP (ι := WebD × Option Int) (fun i G vs => ∃ v1 v2, vs = [v1, v2] ∧ RWeb K a G v1 i.1 ∧ RO K G v2 i.2 ∧ i.1.arrows.length ≤ 1000) (fun i G v => RB G v (isBO i.1 i.2))
theorem ev_isEnd {σ : L2.St} {G L : Hp} {ta tb : TE} {E : XK} {d : WebD} {x : Option Int} (h1 : Ev ta σ G L (RWeb K a) d) (h2 : Ev tb σ G L (RO K) x) (hl : d.arrows.length ≤ 1000) : Ev (tCall (spIsEnd K a) [] E (tCons ta (tCons tb tNil))) σ G L RB (isEO d x) :=
  ev_call (d, x) (ea2 h1 h2) (fun G' vs s ⟨z1, z2, e, q1, q2⟩ => ⟨z1, z2, e, q1, q2, hl⟩) fun _ _ _ q => q
theorem ev_isBegin {σ : L2.St} {G L : Hp} {ta tb : TE} {E : XK} {d : WebD} {x : Option Int} (h1 : Ev ta σ G L (RWeb K a) d) (h2 : Ev tb σ G L (RO K) x) (hl : d.arrows.length ≤ 1000) : Ev (tCall (spIsBegin K a) [] E (tCons ta (tCons tb tNil))) σ G L RB (isBO d x) :=
  ev_call (d, x) (ea2 h1 h2) (fun G' vs s ⟨z1, z2, e, q1, q2⟩ => ⟨z1, z2, e, q1, q2, hl⟩) fun _ _ _ q => q
theorem ev_begins {σ : L2.St} {G L : Hp} {ta tb : TE} {E : XK} {d : WebD} {q : Nat} (h1 : Ev ta σ G L (RWeb K a) d) (h2 : Ev tb σ G L RN q) (hl : d.arrows.length ≤ 1000) : Ev (tCall (spBeginsAt K a) [] E (tCons ta (tCons tb tNil))) σ G L (RL K RN) (begW d q) :=
  ev_call (d, q) (ea2 h1 h2) (fun G' vs s ⟨z1, z2, e, q1, q2⟩ => ⟨z1, z2, e, q1, q2, hl⟩) fun _ _ _ q => q
theorem ev_ends {σ : L2.St} {G L : Hp} {ta tb : TE} {E : XK} {d : WebD} {q : Nat} (h1 : Ev ta σ G L (RWeb K a) d) (h2 : Ev tb σ G L RN q) (hl : d.arrows.length ≤ 1000) : Ev (tCall (spEndsAt K a) [] E (tCons ta (tCons tb tNil))) σ G L (RL K RN) (endW d q) :=
  ev_call (d, q) (ea2 h1 h2) (fun G' vs s ⟨z1, z2, e, q1, q2⟩ => ⟨z1, z2, e, q1, q2, hl⟩) fun _ _ _ q => q
theorem ok_IsBegin (T : Txt K mg a) (h : Has K mg "is_begin" sIsBegin pIsBegin) (G_is_number : Fd P w K mg base CX0 "is_number" pIsNumber 3 (spIsNumber K)) (G_is_end : Fd P w K mg base CX0 "is_end" pIsEnd 4 (spIsEnd K a)) (G_ends_at : Fd P w K mg base CX0 "ends_at" pEndsAt 1 (spEndsAt K a)) : Fd P w K mg base CX0 "is_begin" pIsBegin 5 (spIsBegin K a) := by
  refine h.ok scIsBegin (fun vs H Q E h => ?_) (fun f cdv A outer s H vs Q E hr h => ?_)
  · obtain ⟨i, G, F, _, ⟨v1, v2, rfl, _⟩, _⟩ := h
    rfl
  · obtain ⟨⟨d, x⟩, G, F, hA, ⟨v1, v2, rfl, r1, r2, hl⟩, k⟩ := h
    dsimp only at r1 r2 hl
    have nd := scIsBegin.nd
    refine ⟨_, (pss_one (ps_ret (pe_and (pe_fd G_is_number (hr.mono (by decide)) (by rfl) (pa_cons (pv 1) (pa_cons (pe_op op_sub (k_fld (K := K) rfl (pv 0) rfl) pe_int) pa_nil))) (pe_and (pe_not (pe_fd G_is_end (hr.mono (by decide)) (by rfl) (pa_cons (pv 0) (pa_cons (pv 1) pa_nil)))) (pe_one (pe_cmpR op_eq (pe_callB (k_len (K := K) rfl) (by rfl) T.blen PySem.boot_len (pa_cons (pe_fd G_ends_at (hr.mono (by decide)) (by rfl) (pa_cons (pv 0) (pa_cons (pv 1) pa_nil))) pa_nil)) pe_int (nomark _))))))), ?_⟩
    refine s_ret (L := no) hA no_sub (R := RB) (x := isBO d x) (ev_andV (a := inR x 0 ((d.many : Int) - 1)) (b := isB d (xn x)) (ev_isNumber (ev_var rfl r2) (ev_sub (ev_wMany T (ev_var rfl r1)).ni ev_i)) fun hx => ev_andV (a := !isE d (xn x)) (b := (endW d (xn x)).length == 0) ?_ fun _ => ?_) fun v G' H' s A q => k v G' H' s A q
    · exact (ev_notV (ev_isEnd (ev_var rfl r1) (ev_var rfl r2) hl)).is (by unfold isEO; rw [hx, Bool.true_and])
    · exact (ev_eqI (i := ((endW d (xn x)).length : Int)) (j := 0) (ev_lenL (ev_ends (ev_var rfl r1) (ev_var (R := RN) rfl (ROn r2 hx)) hl)) ev_i).is (natEq _ 0)

/-! raw_turned_web -/
-- 0 web 1 place 2 arrow; cells place
abbrev sRawTurnedWeb : Stmt := top 37
abbrev nRawTurnedWeb : List Str := ["web", "place", "arrow"]
abbrev pRawTurnedWeb : List Str := ["web", "place"]
theorem scRawTurnedWeb : FnScope nRawTurnedWeb pRawTurnedWeb (defScope sRawTurnedWeb) := ⟨rfl, rfl, rfl, by decide +kernel, rfl, by decide +kernel, by decide +kernel⟩
def spRawTurnedWeb (K : Fg) (a : Adr) : Sp := SpP (ι := WebD × Nat) (fun i G vs => ∃ v1 v2, vs = [v1, v2] ∧ RWeb K a G v1 i.1 ∧ RN G v2 i.2 ∧ i.1.arrows.length ≤ 1000) (fun i G v => RRaw K a G v (turnW i.1 i.2))
theorem ok_RawTurnedWeb (T : Txt K mg a) (h : Has K mg "raw_turned_web" sRawTurnedWeb pRawTurnedWeb) (G_RawWeb : Md P w K mg base CX0 a.RWb "__init__" pRawWebInit 1 (SpI a.RWb (preWeb K) (fsWeb K))) : Fd P w K mg base CX0 "raw_turned_web" pRawTurnedWeb 3 (spRawTurnedWeb K a) := by
  refine h.ok scRawTurnedWeb (fun vs H Q E h => ?_) (fun f cdv A outer s H vs Q E hr h => ?_)
  · obtain ⟨i, G, F, _, ⟨v1, v2, rfl, _⟩, _⟩ := h
    rfl
  · obtain ⟨⟨d, q⟩, G, F, hA, ⟨v1, v2, rfl, r1, r2, hl⟩, k⟩ := h
    dsimp only at r1 r2 hl
    have nd := scRawTurnedWeb.nd
    refine ⟨_, (pss_one (ps_ret (pe_mk T.cRWb G_RawWeb (hr.mono (by decide)) (by rfl) (pa_cons (k_fld (K := K) rfl (pv 0) rfl) (pa_cons (pe_callTy (k_tuple (K := K) rfl) (by rfl) T.btuple (by decide +kernel) (pa_cons (pe_lc (own := [("arrow", 2)]) (g := (gName 2)) (tt := tYes) rfl nd (k_seq (K := K) rfl (k_fld (K := K) rfl (pv 0) rfl)) (blkOk_by (N := nRawTurnedWeb) (sc := defScope sRawTurnedWeb) (by decide +kernel)) (fun _ _ _ _ _ => (pg_name (i := 2) nd rfl (by first | exact Or.inl rfl | exact Or.inr rfl))) (fun _ _ _ _ _ => pts_nil) (fun _ _ _ _ _ => (pe_ifExp (pt_cmpR (k_in (K := K) rfl) (pv 1) (pv 2) rfl) (k_revT (K := K) rfl (pv 2)) (pv 2)))) pa_nil)) pa_nil))))), ?_⟩
    refine s_ret (L := no) hA no_sub (R := RRaw K a) (x := turnW d q) (ev_rawWebR (turnW d q) (ev_wMany T (d := d) (ev_var rfl r1)) (ev_tupL (EvF.ev (ef_lcX (ei_seqT (ev_wArr T (ev_var rfl r1))) (turnA q) (by omega) fun p u G' hp s q1 => ?_)))) fun v G' H' s A q => k v G' H' s A q
    refine ev_if (b := [p.1, p.2].contains q) (et_test ((ev_inT (neg := false) (n := (q : Int)) (ev_var (R := RN) rfl (mn s r2)).ni (Ev.rtn (ns := [p.1, p.2]) (ev_var (R := RT K RN) rfl (RPt q1)))).is (contains_cast q [p.1, p.2]))) (fun hb => ?_) fun hb => ?_
    · exact (ev_revT (ev_var (R := RP K RN RN) rfl q1)).is (by unfold turnA; rw [hb]; rfl)
    · exact (ev_var (R := RP K RN RN) rfl q1).is (by unfold turnA; rw [hb]; rfl)
end
end MW

set_option Elab.async false
set_option linter.all false
set_option maxRecDepth 100000
set_option maxHeartbeats 4000000
/-! Walks: pictures. -/
namespace MW
open PySem PySem.Spec PyProof.Rows L2
def tb0 : TabD := ⟨0, 0, []⟩
def sz (d : PicD) (i : Nat) : Nat := d.sizes.getD i 0
def tb (d : PicD) (i : Nat) : TabD := d.tabs.getD i tb0
theorem getD_some {α : Type} {xs : List α} {i : Nat} (h : i < xs.length) (z : α) : xs[i]? = some (xs.getD i z) := by simp [h]
def P4 (p : Int) : Prop := p = 2 ∨ p = 3 ∨ p = 5 ∨ p = 13
theorem P4.fp {p : Int} (h : P4 p) : Fp p := by
  rcases h with h | h | h | h <;> subst h
  · exact fp2
  · exact fp3
  · exact fp5
  · exact fp13
/-- a picture within its bounds -/
structure okPic (d : PicD) : Prop where
  web : okWeb d.web
  p : P4 d.p
  sl : d.sizes.length = d.web.many
  sb : ∀ s ∈ d.sizes, s ≤ 6
  tl : d.tabs.length = d.web.arrows.length
  t : ∀ i, i < d.web.arrows.length → (tb d i).p = d.p ∧ (tb d i).rows.length = sz d (ar d.web i).2 ∧ (tb d i).wide = sz d (ar d.web i).1 ∧ ∀ r ∈ (tb d i).rows, Wr d.p (tb d i).wide r
theorem isP_of {p : Int} (h : P4 p) : isP p = true := by
  rcases h with h | h | h | h <;> subst h <;> decide
section
variable {P : Program} {w : World} {K : Fg} {mg : Str → Option Value} {base : Heap} {a : Adr}
def fsPic (K : Fg) (a : Adr) (d : PicD) (G : Hp) (fs : List (Str × V)) : Prop := ∃ w s t, fs.lookup ("web" : Str) = some w ∧ fs.lookup ("prime" : Str) = some (.int d.p) ∧ fs.lookup ("sizes" : Str) = some s ∧ fs.lookup ("tables" : Str) = some t ∧ RWeb K a G w d.web ∧ RT K RN G s d.sizes ∧ RT K (RTab K a) G t d.tabs
/-- .. whose web is raw -/
def fsPicR (K : Fg) (a : Adr) (d : PicD) (G : Hp) (fs : List (Str × V)) : Prop := ∃ w s t, fs.lookup ("web" : Str) = some w ∧ fs.lookup ("prime" : Str) = some (.int d.p) ∧ fs.lookup ("sizes" : Str) = some s ∧ fs.lookup ("tables" : Str) = some t ∧ RRaw K a G w d.web ∧ RT K RN G s d.sizes ∧ RT K (RTab K a) G t d.tabs
def prePic (K : Fg) (a : Adr) (d : PicD) (G : Hp) (ws : List V) : Prop := ∃ v1 v2 v3 v4, ws = [v1, v2, v3, v4] ∧ RWeb K a G v1 d.web ∧ RI G v2 d.p ∧ RT K RN G v3 d.sizes ∧ RT K (RTab K a) G v4 d.tabs
def prePicR (K : Fg) (a : Adr) (d : PicD) (G : Hp) (ws : List V) : Prop := ∃ v1 v2 v3 v4, ws = [v1, v2, v3, v4] ∧ RRaw K a G v1 d.web ∧ RI G v2 d.p ∧ RT K RN G v3 d.sizes ∧ RT K (RTab K a) G v4 d.tabs
theorem fsPic_mn {d : PicD} {G G' : Hp} {fs : List (Str × V)} (e : Same G G') (h : fsPic K a d G fs) : fsPic K a d G' fs := let ⟨w, s, t, h1, h2, h3, h4, h5, h6, h7⟩ := h; ⟨w, s, t, h1, h2, h3, h4, mn e h5, mn e h6, mn e h7⟩
theorem fsPicR_mn {d : PicD} {G G' : Hp} {fs : List (Str × V)} (e : Same G G') (h : fsPicR K a d G fs) : fsPicR K a d G' fs := let ⟨w, s, t, h1, h2, h3, h4, h5, h6, h7⟩ := h; ⟨w, s, t, h1, h2, h3, h4, mn e h5, mn e h6, mn e h7⟩

/-! Picture.keep -/
-- 0 self 1 web 2 prime 3 sizes 4 tables; cells 
abbrev sPictureKeep : Stmt := inClass (top 43) 1
abbrev nPictureKeep : List Str := ["self", "web", "prime", "sizes", "tables"]
abbrev pPictureKeep : List Str := ["self", "web", "prime", "sizes", "tables"]
theorem scPictureKeep : FnScope nPictureKeep pPictureKeep (defScope sPictureKeep) := ⟨rfl, rfl, rfl, by decide +kernel, rfl, by decide +kernel, by decide +kernel⟩
theorem ok_PictureKeep (T : Txt K mg a) (h : HasM K a.Pc "keep" "Picture.keep" sPictureKeep pPictureKeep) : Md P w K mg base CX0 a.Pc "keep" pPictureKeep 1 (SpI a.Pc (prePic K a) (fsPic K a)) := by
  refine h.ok scPictureKeep (fun vs H Q E h => ?_) (fun f cdv A outer s H vs Q E hr h => ?_)
  · obtain ⟨i, G, F, x, dx, ws, rfl, _, _, ⟨v1, v2, v3, v4, rfl, _⟩, _⟩ := h
    rfl
  · obtain ⟨d, G, F, x, dx, ws, rfl, hA, hx, ⟨v1, v2, v3, v4, rfl, r1, r2, r3, r4⟩, k⟩ := h
    have nd := scPictureKeep.nd
    obtain ⟨n1, n2, n3, n4⟩ := T.nPc
    refine ⟨_, (pss_cons (k_sfld (K := K) rfl (pv 0) (pv 1) rfl)
      (pss_cons (k_sfld (K := K) rfl (pv 0) (pv 2) rfl)
      (pss_cons (k_sfld (K := K) rfl (pv 0) (pv 3) rfl)
      (pss_one (k_sfld (K := K) rfl (pv 0) (pv 4) rfl))))), ?_⟩
    refine s_fld (L := no) hA no_sub rfl hx (ev_var (R := RWeb K a) rfl r1) T.cPc.cl n1 (by decide) fun w1 G1 H1 s1 A1 q1 => ?_
    refine s_fld (L := no) A1 no_sub rfl upd_same (ev_var (R := RI) rfl r2) T.cPc.cl n2 f1_lt fun w2 G2 H2 s2 A2 q2 => ?_
    rw [upd_upd] at A2
    refine s_fld (L := no) A2 no_sub rfl upd_same (ev_var (R := RT K RN) rfl (mn (s1.trans s2) r3)) T.cPc.cl n3 f2_lt fun w3 G3 H3 s3 A3 q3 => ?_
    rw [upd_upd] at A3
    refine s_fld (L := no) A3 no_sub rfl upd_same (ev_var (R := RT K (RTab K a)) rfl (mn ((s1.trans s2).trans s3) r4)) T.cPc.cl n4 f3_lt fun w4 G4 H4 s4 A4 q4 => ?_
    rw [upd_upd] at A4
    refine k G4 H4 _ (((s1.trans s2).trans s3).trans s4) A4 ?_
    cases q2
    exact ⟨w1, w3, w4, rfl, rfl, rfl, rfl, mn (s2.trans (s3.trans s4)) q1, mn s4 q3, q4⟩
theorem ok_PictureKeepR (T : Txt K mg a) (h : HasM K a.RPc "keep" "Picture.keep" sPictureKeep pPictureKeep) : Md P w K mg base CX0 a.RPc "keep" pPictureKeep 1 (SpI a.RPc (prePicR K a) (fsPicR K a)) := by
  refine h.ok scPictureKeep (fun vs H Q E h => ?_) (fun f cdv A outer s H vs Q E hr h => ?_)
  · obtain ⟨i, G, F, x, dx, ws, rfl, _, _, ⟨v1, v2, v3, v4, rfl, _⟩, _⟩ := h
    rfl
  · obtain ⟨d, G, F, x, dx, ws, rfl, hA, hx, ⟨v1, v2, v3, v4, rfl, r1, r2, r3, r4⟩, k⟩ := h
    have nd := scPictureKeep.nd
    obtain ⟨n1, n2, n3, n4⟩ := T.nRPc
    refine ⟨_, (pss_cons (k_sfld (K := K) rfl (pv 0) (pv 1) rfl)
      (pss_cons (k_sfld (K := K) rfl (pv 0) (pv 2) rfl)
      (pss_cons (k_sfld (K := K) rfl (pv 0) (pv 3) rfl)
      (pss_one (k_sfld (K := K) rfl (pv 0) (pv 4) rfl))))), ?_⟩
    refine s_fld (L := no) hA no_sub rfl hx (ev_var (R := RRaw K a) rfl r1) T.cRPc.cl n1 (by decide) fun w1 G1 H1 s1 A1 q1 => ?_
    refine s_fld (L := no) A1 no_sub rfl upd_same (ev_var (R := RI) rfl r2) T.cRPc.cl n2 f1_lt fun w2 G2 H2 s2 A2 q2 => ?_
    rw [upd_upd] at A2
    refine s_fld (L := no) A2 no_sub rfl upd_same (ev_var (R := RT K RN) rfl (mn (s1.trans s2) r3)) T.cRPc.cl n3 f2_lt fun w3 G3 H3 s3 A3 q3 => ?_
    rw [upd_upd] at A3
    refine s_fld (L := no) A3 no_sub rfl upd_same (ev_var (R := RT K (RTab K a)) rfl (mn ((s1.trans s2).trans s3) r4)) T.cRPc.cl n4 f3_lt fun w4 G4 H4 s4 A4 q4 => ?_
    rw [upd_upd] at A4
    refine k G4 H4 _ (((s1.trans s2).trans s3).trans s4) A4 ?_
    cases q2
    exact ⟨w1, w3, w4, rfl, rfl, rfl, rfl, mn (s2.trans (s3.trans s4)) q1, mn s4 q3, q4⟩

/-! RawPicture.__init__ -/
-- 0 self 1 web 2 prime 3 sizes 4 tables; cells 
abbrev sRawPictureInit : Stmt := inClass (top 44) 0
abbrev nRawPictureInit : List Str := ["self", "web", "prime", "sizes", "tables"]
abbrev pRawPictureInit : List Str := ["self", "web", "prime", "sizes", "tables"]
theorem scRawPictureInit : FnScope nRawPictureInit pRawPictureInit (defScope sRawPictureInit) := ⟨rfl, rfl, rfl, by decide +kernel, rfl, by decide +kernel, by decide +kernel⟩
theorem ok_RawPictureInit (T : Txt K mg a) (h : HasM K a.RPc "__init__" "RawPicture.__init__" sRawPictureInit pRawPictureInit) (G_keep : Md P w K mg base CX0 a.RPc "keep" pPictureKeep 1 (SpI a.RPc (prePicR K a) (fsPicR K a))) : Md P w K mg base CX0 a.RPc "__init__" pRawPictureInit 2 (SpI a.RPc (prePicR K a) (fsPicR K a)) := by
  refine h.ok scRawPictureInit (fun vs H Q E h => ?_) (fun f cdv A outer s H vs Q E hr h => ?_)
  · obtain ⟨i, G, F, x, dx, ws, rfl, _, _, ⟨v1, v2, v3, v4, rfl, _⟩, _⟩ := h
    rfl
  · obtain ⟨d, G, F, x, dx, ws, rfl, hA, hx, ⟨v1, v2, v3, v4, rfl, r1, r2, r3, r4⟩, k⟩ := h
    have nd := scRawPictureInit.nd
    refine ⟨_, (pss_one (ps_expr (pe_md (pv 0) T.cRPc.cl G_keep (hr.mono (by decide)) (pa_cons (pv 1) (pa_cons (pv 2) (pa_cons (pv 3) (pa_cons (pv 4) pa_nil))))))), ?_⟩
    exact s_meth (L := no) hA no_sub rfl hx (ea4 (R := RRaw K a) (x := d.web) (S := RI) (y := d.p) (U := RT K RN) (V' := RT K (RTab K a)) (ev_var rfl r1) (ev_var rfl r2) (ev_var rfl r3) (ev_var rfl r4)) d (fun G' vs s q => q) fun G6 H6 fl s6 A6 hf => k G6 H6 fl s6 A6 hf
/-- a raw picture, its web raw -/
def RPicR (K : Fg) (a : Adr) : Rel PicD := fun G v d => RPic K a G v d ∧ ∃ x dx fs w, v = .ref x ∧ G x = some (.ins a.RPc dx fs) ∧ fs.lookup ("web" : Str) = some w ∧ RRaw K a G w d.web
instance {K : Fg} {a : Adr} : Mn (RPicR K a) := ⟨fun e ⟨h, x, dx, fs, w, h1, h2, h3, h4⟩ => ⟨mn e h, x, dx, fs, w, h1, e _ _ h2, h3, mn e h4⟩⟩
theorem ev_rawPic (d : PicD) {σ : L2.St} {G L : Hp} {ta tb tc td : TE} {E : XK} (h1 : Ev ta σ G L (RRaw K a) d.web) (h2 : Ev tb σ G L RI d.p) (h3 : Ev tc σ G L (RT K RN) d.sizes) (h4 : Ev td σ G L (RT K (RTab K a)) d.tabs) :
    Ev (tMake a.RPc (SpI a.RPc (prePicR K a) (fsPicR K a)) [] E (tCons ta (tCons tb (tCons tc (tCons td tNil))))) σ G L (RPicR K a) d :=
  ev_mk d (ea4 h1 h2 h3 h4) (fun G' vs s q => q) (fun _ _ _ s q => fsPicR_mn s q) fun G' x dx fl s ⟨w, z, t, e1, e2, e3, e4, e5, e6, e7⟩ hx => ⟨⟨x, _, dx, fl, w, z, t, rfl, .inr rfl, hx, e1, e2, e3, e4, e5.1, e6, e7⟩, x, dx, fl, w, rfl, hx, e1, e5⟩
theorem ev_pWebR (T : Txt K mg a) {σ : L2.St} {G L : Hp} {ta : TE} {d : PicD} (h : Ev ta σ G L (RPicR K a) d) : Ev (tFld K ta "web") σ G L (RRaw K a) d.web := ev_fld h fun G v ⟨_, x, dx, fs, w, h1, h2, h3, h4⟩ => ⟨x, _, dx, fs, _, h1, h2, T.cRPc.cl, T.nRPc.1, h3, h4⟩
theorem Ev.ofR {σ : L2.St} {G L : Hp} {ta : TE} {d : PicD} (h : Ev ta σ G L (RPicR K a) d) : Ev ta σ G L (RPic K a) d := h.imp fun _ _ q => q.1
theorem Ev.ofW {σ : L2.St} {G L : Hp} {ta : TE} {d : WebD} (h : Ev ta σ G L (RRaw K a) d) : Ev ta σ G L (RWeb K a) d := h.imp fun _ _ q => q.1
theorem ev_pic (d : PicD) {σ : L2.St} {G L : Hp} {ta tb tc td : TE} {E : XK} (ok : okPic d) (h1 : Ev ta σ G L (RWeb K a) d.web) (h2 : Ev tb σ G L RI d.p) (h3 : Ev tc σ G L (RT K RN) d.sizes) (h4 : Ev td σ G L (RT K (RTab K a)) d.tabs) :
    Ev (tMake a.Pc (SpI a.Pc (fun d G ws => prePic K a d G ws ∧ okPic d) (fsPic K a)) [] E (tCons ta (tCons tb (tCons tc (tCons td tNil))))) σ G L (RPic K a) d :=
  ev_mk d (ea4 h1 h2 h3 h4) (fun G' vs s q => ⟨q, ok⟩) (fun _ _ _ s q => fsPic_mn s q) fun G' x dx fl s ⟨w, z, t, e1, e2, e3, e4, e5, e6, e7⟩ hx => ⟨x, _, dx, fl, w, z, t, rfl, .inl rfl, hx, e1, e2, e3, e4, e5, e6, e7⟩
theorem ev_isPic (T : Txt K mg a) {σ : L2.St} {G L : Hp} {ta : TE} {d : PicD} (h : Ev ta σ G L (RPic K a) d) : Ev (tCB (rIsi K) (tCons ta (tCons (tC (.ref a.Pc)) tNil))) σ G L RB true :=
  ev_isi h (.own a.Pc) fun G v ⟨x, C, dx, fs, w, z, t, e, hC, hx, _⟩ => by
    subst e
    rcases hC with e | e
    · subst e; exact ⟨_, tyIns T T.cPc hx, T.kPc⟩
    · subst e; exact ⟨_, tyIns T T.cRPc hx, T.kRPc⟩
theorem ev_isTab (T : Txt K mg a) {σ : L2.St} {G L : Hp} {ta : TE} {d : TabD} (h : Ev ta σ G L (RTab K a) d) : Ev (tCB (rIsi K) (tCons ta (tCons (tC (.ref a.Tb)) tNil))) σ G L RB true :=
  ev_isi h (.own a.Tb) fun G v ⟨x, C, dx, fs, r, e, hC, hx, _⟩ => by
    subst e
    rcases hC with e | e
    · subst e; exact ⟨_, tyIns T T.cTb hx, T.kTb⟩
    · subst e; exact ⟨_, tyIns T T.cRTb hx, T.kRTb⟩

/-! are_sizes -/
-- 0 web 1 thing 2 size; cells 
abbrev sAreSizes : Stmt := top 41
abbrev nAreSizes : List Str := ["web", "thing", "size"]
abbrev pAreSizes : List Str := ["web", "thing"]
theorem scAreSizes : FnScope nAreSizes pAreSizes (defScope sAreSizes) := ⟨rfl, rfl, rfl, by decide +kernel, rfl, by decide +kernel, by decide +kernel⟩
def spAreSizes (K : Fg) (a : Adr) : Sp := SpP (ι := WebD × List Nat) (fun i G vs => ∃ v1 v2, vs = [v1, v2] ∧ RWeb K a G v1 i.1 ∧ RT K RN G v2 i.2 ∧ i.2.length = i.1.many ∧ (∀ s ∈ i.2, s ≤ 6) ∧ i.1.many ≤ 1000) (fun i G v => RB G v true)
theorem ok_AreSizes (T : Txt K mg a) (h : Has K mg "are_sizes" sAreSizes pAreSizes) (G_is_number : Fd P w K mg base CX0 "is_number" pIsNumber 3 (spIsNumber K)) : Fd P w K mg base CX0 "are_sizes" pAreSizes 4 (spAreSizes K a) := by
  refine h.ok scAreSizes (fun vs H Q E h => ?_) (fun f cdv A outer s H vs Q E hr h => ?_)
  · obtain ⟨i, G, F, _, ⟨v1, v2, rfl, _⟩, _⟩ := h
    rfl
  · obtain ⟨⟨d, ss⟩, G, F, hA, ⟨v1, v2, rfl, r1, r2, hl, hs, hm⟩, k⟩ := h
    dsimp only at r1 r2 hl hs hm
    have nd := scAreSizes.nd
    refine ⟨_, (pss_one (ps_ret (pe_and (pe_callB (k_isi (K := K) rfl) (by rfl) T.bisinstance (by decide +kernel) (pa_cons (pv 1) (pa_cons (pe_bltn (v := .ty "tuple") (by rfl) T.btuple (by decide +kernel) rfl) pa_nil))) (pe_and (pe_cmpR op_eq (pe_callB (k_len (K := K) rfl) (by rfl) T.blen PySem.boot_len (pa_cons (pv 1) pa_nil)) (k_fld (K := K) rfl (pv 0) rfl) (nomark _)) (pe_one (pe_callB (k_all (K := K) rfl rfl) (by rfl) T.ball (by decide +kernel) (pa_cons (pe_lc (own := [("size", 2)]) (g := (gName 2)) (tt := tYes) rfl nd (k_seq (K := K) rfl (pv 1)) (blkOk_by (N := nAreSizes) (sc := defScope sAreSizes) (by decide +kernel)) (fun _ _ _ _ _ => (pg_name (i := 2) nd rfl (by first | exact Or.inl rfl | exact Or.inr rfl))) (fun _ _ _ _ _ => pts_nil) (fun _ _ _ _ _ => (pe_fd G_is_number (hr.mono (by decide)) (by rfl) (pa_cons (pv 2) (pa_cons (pe_gint (by rfl) T.MOST_SIZE) pa_nil))))) pa_nil))))))), ?_⟩
    refine s_ret (L := no) hA no_sub (R := RB) (x := true) (ev_andV (a := true) (b := true) (ev_isTup (ev_var rfl r2)) fun _ => ev_andV (a := true) (b := true) ?_ fun _ => ?_) fun v G' H' s A q => k v G' H' s A q
    · exact (ev_eqI (i := (ss.length : Int)) (j := (d.many : Int)) (ev_lenT (ev_var rfl r2)) (ev_wMany T (ev_var rfl r1)).ni).is (by rw [hl]; simp)
    · refine (ev_all (EvF.ev (ef_lcX (S := RB) (ei_seqT (ev_var rfl r2)) (fun x => inR (some (x : Int)) 0 6) (by omega) fun x v G' hx s q => ev_isNumber (Ev.ro (ev_var (R := RN) rfl q).ni) (ev_i (n := 6))))).is ?_
      simp only [List.all_map, List.all_eq_true]
      intro x hx
      have := hs x hx
      simp [inR]
      omega

/-! is_fit_table -/
-- 0 prime 1 high 2 wide 3 thing; cells 
abbrev sIsFitTable : Stmt := top 42
abbrev nIsFitTable : List Str := ["prime", "high", "wide", "thing"]
abbrev pIsFitTable : List Str := ["prime", "high", "wide", "thing"]
theorem scIsFitTable : FnScope nIsFitTable pIsFitTable (defScope sIsFitTable) := ⟨rfl, rfl, rfl, by decide +kernel, rfl, by decide +kernel, by decide +kernel⟩
def spIsFitTable (K : Fg) (a : Adr) : Sp := SpP (ι := Int × Nat × Nat × TabD) (fun i G vs => ∃ v1 v2 v3 v4, vs = [v1, v2, v3, v4] ∧ RI G v1 i.1 ∧ RN G v2 i.2.1 ∧ RN G v3 i.2.2.1 ∧ RTab K a G v4 i.2.2.2) (fun i G v => RB G v (decide ((i.2.2.2.p, i.2.2.2.rows.length, i.2.2.2.wide) = (i.1, i.2.1, i.2.2.1))))
theorem ok_IsFitTable (T : Txt K mg a) (h : Has K mg "is_fit_table" sIsFitTable pIsFitTable) : Fd P w K mg base CX0 "is_fit_table" pIsFitTable 1 (spIsFitTable K a) := by
  refine h.ok scIsFitTable (fun vs H Q E h => ?_) (fun f cdv A outer s H vs Q E hr h => ?_)
  · obtain ⟨i, G, F, _, ⟨v1, v2, v3, v4, rfl, _⟩, _⟩ := h
    rfl
  · obtain ⟨⟨p, hi, wd, t⟩, G, F, hA, ⟨v1, v2, v3, v4, rfl, r1, r2, r3, r4⟩, k⟩ := h
    dsimp only at r1 r2 r3 r4
    have nd := scIsFitTable.nd
    refine ⟨_, (pss_one (ps_ret (pe_and (pe_callB (k_isi (K := K) rfl) (by rfl) T.bisinstance (by decide +kernel) (pa_cons (pv 3) (pa_cons (pe_glob (v := .ref a.Tb) (by rfl) T.cTb.mg rfl) pa_nil))) (pe_one (pe_cmpR (k_eqD (K := K) rfl hr.units) (pe_tup (pa_cons (k_fld (K := K) rfl (pv 3) rfl) (pa_cons (k_fld (K := K) rfl (pv 3) rfl) (pa_cons (k_fld (K := K) rfl (pv 3) rfl) pa_nil)))) (pe_tup (pa_cons (pv 0) (pa_cons (pv 1) (pa_cons (pv 2) pa_nil)))) (nomark _)))))), ?_⟩
    refine s_ret (L := no) hA no_sub (R := RB) (Ev.is (ev_andV (a := true) (b := decide ((t.p, t.rows.length, t.wide) = (p, hi, wd))) (ev_isTab T (ev_var rfl r4)) fun _ => ?_) (Bool.true_and _)) fun v G' H' s A q => k v G' H' s A q
    exact ev_eqD (R := R3 K RI RN RN) (ev_tup3 (ev_tPrime T (ev_var rfl r4)) (ev_tHigh T (ev_var rfl r4)) (ev_tWide T (ev_var rfl r4))) (ev_tup3 (ev_var rfl r1) (ev_var rfl r2) (ev_var rfl r3)) (Nat.le_of_ble_eq_true rfl)

/-! Picture.__init__ -/
-- 0 self 1 web 2 prime 3 sizes 4 tables 5 index 6 begin 7 end; cells 
abbrev sPictureInit : Stmt := inClass (top 43) 0
abbrev nPictureInit : List Str := ["self", "web", "prime", "sizes", "tables", "index", "begin", "end"]
abbrev pPictureInit : List Str := ["self", "web", "prime", "sizes", "tables"]
theorem scPictureInit : FnScope nPictureInit pPictureInit (defScope sPictureInit) := ⟨rfl, rfl, rfl, by decide +kernel, rfl, by decide +kernel, by decide +kernel⟩
theorem ok_PictureInit (T : Txt K mg a) (h : HasM K a.Pc "__init__" "Picture.__init__" sPictureInit pPictureInit) (G_is_prime : Fd P w K mg base CX0 "is_prime" pIsPrime 2 (spIsPrime K)) (G_are_sizes : Fd P w K mg base CX0 "are_sizes" pAreSizes 4 (spAreSizes K a)) (G_is_fit_table : Fd P w K mg base CX0 "is_fit_table" pIsFitTable 1 (spIsFitTable K a))
    (G_keep : Md P w K mg base CX0 a.Pc "keep" pPictureKeep 1 (SpI a.Pc (prePic K a) (fsPic K a))) : Md P w K mg base CX0 a.Pc "__init__" pPictureInit 5 (SpI a.Pc (fun d G ws => prePic K a d G ws ∧ okPic d) (fsPic K a)) := by
  refine h.ok scPictureInit (fun vs H Q E h => ?_) (fun f cdv A outer s H vs Q E hr h => ?_)
  · obtain ⟨i, G, F, x, dx, ws, rfl, _, _, ⟨⟨v1, v2, v3, v4, rfl, _⟩, _⟩, _⟩ := h
    rfl
  · obtain ⟨d, G, F, x, dx, ws, rfl, hA, hx, ⟨⟨v1, v2, v3, v4, rfl, r1, r2, r3, r4⟩, ok⟩, k⟩ := h
    have nd := scPictureInit.nd
    cases r2
    refine ⟨_, (pss_cons (ps_if (pt_not (pt_val (pe_callB (k_isi (K := K) rfl) (by rfl) T.bisinstance (by decide +kernel) (pa_cons (pv 1) (pa_cons (pe_glob (v := .ref a.Wb) (by rfl) T.cWb.mg rfl) pa_nil)))))
        (pss_one ps_never)
        pss_nil)
      (pss_cons (ps_if (pt_not (pt_val (pe_fd G_is_prime (hr.mono (by decide)) (by rfl) (pa_cons (pv 2) pa_nil))))
        (pss_one ps_never)
        pss_nil)
      (pss_cons (ps_if (pt_not (pt_val (pe_fd G_are_sizes (hr.mono (by decide)) (by rfl) (pa_cons (pv 1) (pa_cons (pv 3) pa_nil)))))
        (pss_one ps_never)
        pss_nil)
      (pss_cons (ps_if (PW.pt (pw_or (pt_not (pt_val (pe_callB (k_isi (K := K) rfl) (by rfl) T.bisinstance (by decide +kernel) (pa_cons (pv 4) (pa_cons (pe_bltn (v := .ty "tuple") (by rfl) T.btuple (by decide +kernel) rfl) pa_nil))))) (pw_or1 (pt_cmpR op_ne (pe_callB (k_len (K := K) rfl) (by rfl) T.blen PySem.boot_len (pa_cons (pv 4) pa_nil)) (pe_callB (k_len (K := K) rfl) (by rfl) T.blen PySem.boot_len (pa_cons (k_fld (K := K) rfl (pv 1) rfl) pa_nil)) (nomark _)))))
        (pss_one ps_never)
        pss_nil)
      (pss_cons (ps_for PassesOwn.never rfl (k_enumT (K := K) rfl (by rfl) T.benumerate (pa_cons (k_fld (K := K) rfl (pv 1) rfl) pa_nil)) (k_tup (K := K) rfl rfl (pgs_cons (pg_name (i := 5) nd rfl (by first | exact Or.inl rfl | exact Or.inr rfl)) (pgs_cons (k_tup (K := K) rfl rfl (pgs_cons (pg_name (i := 6) nd rfl (by first | exact Or.inl rfl | exact Or.inr rfl)) (pgs_cons (pg_name (i := 7) nd rfl (by first | exact Or.inl rfl | exact Or.inr rfl)) pgs_nil))) pgs_nil)))
        (pss_one (ps_if (pt_not (pt_val (pe_fd G_is_fit_table (hr.mono (by decide)) (by rfl) (pa_cons (pv 2) (pa_cons (pe_ix (k_ix (K := K) rfl) (pv 3) (pv 7) (fun _ _ => rfl)) (pa_cons (pe_ix (k_ix (K := K) rfl) (pv 3) (pv 6) (fun _ _ => rfl)) (pa_cons (pe_ix (k_ix (K := K) rfl) (pv 4) (pv 5) (fun _ _ => rfl)) pa_nil)))))))
          (pss_one ps_never)
          pss_nil)))
      (pss_one (ps_expr (pe_md (pv 0) T.cPc.cl G_keep (hr.mono (by decide)) (pa_cons (pv 1) (pa_cons (pv 2) (pa_cons (pv 3) (pa_cons (pv 4) pa_nil)))))))))))), ?_⟩
    have ma := ok.web.a
    have m2 := ok.web.m2
    refine s_no (L := no) hA no_sub ((et_not (et_B (b := true) (ev_isWeb T (ev_var rfl r1)))).is rfl) fun G1 H1 s1 A1 => ?_
    refine s_no (L := no) A1 no_sub ((et_not (et_B (b := true) ((ev_call (R := RB) d.p (ea1 (R := RI) (x := d.p) (ev_var rfl rfl)) (fun G' vs s q => q) fun _ _ _ q => q).is (isP_of ok.p)))).is rfl) fun G2 H2 s2 A2 => ?_
    have S2 := s1.trans s2
    refine s_no (L := no) A2 no_sub ((et_not (et_B (b := true) (ev_call (R := RB) (d.web, d.sizes) (ea2 (R := RWeb K a) (S := RT K RN) (ev_var rfl (mn S2 r1)) (ev_var rfl (mn S2 r3))) (fun G' vs s ⟨z1, z2, z3, z4, z5⟩ => ⟨z1, z2, z3, z4, z5, ok.sl, ok.sb, by dsimp only; omega⟩) fun _ _ _ q => q))).is rfl) fun G3 H3 s3 A3 => ?_
    have S3 := S2.trans s3
    refine s_no (L := no) A3 no_sub ((et_or (a := false) (b := false) ((et_not (et_B (b := true) (ev_isTup (ev_var rfl (mn S3 r4))))).is rfl) fun _ => et_test ((ev_neI (i := (d.tabs.length : Int)) (j := (d.web.arrows.length : Int)) (ev_lenT (ev_var rfl (mn S3 r4))) (ev_lenT (ev_wArr T (ev_var rfl (mn S3 r1))))).is (by rw [ok.tl]; simp))).is rfl) fun G4 H4 s4 A4 => ?_
    have S4 := S3.trans s4
    refine s_for (L := no) A4 no_sub (ei_enu (ev_wArr T (ev_var rfl (mn S4 r1)))) (fun i σ G' F' => F' = F ∧ Same G4 G' ∧ ∃ u1 u2 u3, σ = [some (.ref x), some v1, some (.int d.p), some v3, some v4, u1, u2, u3]) (fun G' s => ⟨rfl, s, none, none, none, rfl⟩) (fun _ _ _ _ _ => no_sub) ?_ ?_
    · rintro G0 s0 i v σ' G' F' H' hi ⟨rfl, s5, u1, u2, u3, rfl⟩ G'' s6 s7 A5 ⟨⟨j, r⟩, er, b, w1, w2, e1, e2, e3, b', y1, y2, e4, e5, e6, e7⟩
      refine ⟨b, [w1, w2], e1, sqtS A5.g e2, rfl, w1, [w2], rfl, w2, [], rfl, b', [y1, y2], e4, sqtS A5.g e5, rfl, y1, [y2], rfl, y2, [], rfl, rfl, rfl, ?_⟩
      dsimp only at e3 e6 e7
      rw [enu_len] at hi
      have hge := enu_get (getD_some hi (0, 0))
      rw [hge] at er
      have ej : i = j := congrArg (fun z => (z.getD (0, 0, 0)).1) er
      have erw : ar d.web i = r := congrArg (fun z => (z.getD (0, 0, 0)).2) er
      subst ej
      obtain ⟨t1, t2, t3, _⟩ := ok.t i hi
      have mb := ok.web.b r (by rw [← erw]; exact List.mem_of_getElem? (getD_some hi (0, 0)))
      rw [erw] at t2 t3
      have S5 := S4.trans (s5.trans s6)
      have hsl := ok.sl
      have htl := ok.tl
      refine s_no (L := no) A5 no_sub ((et_not (et_B (b := true) ((ev_call (R := RB) (d.p, sz d r.2, sz d r.1, tb d i) (ea4 (R := RI) (S := RN) (U := RN) (V' := RTab K a) (ev_var rfl rfl) (ev_ixT (n := r.2) (ev_var rfl (mn S5 r3)) (ev_var (R := RN) (x := r.2) rfl e7).ni rfl (getD_some (by omega) 0)) (ev_ixT (n := r.1) (ev_var rfl (mn S5 r3)) (ev_var (R := RN) (x := r.1) rfl e6).ni rfl (getD_some (by omega) 0)) (ev_ixT (n := i) (ev_var rfl (mn S5 r4)) (ev_var (R := RN) (x := i) rfl e3).ni rfl (getD_some (by omega) tb0))) (fun G' vs s q => q) fun _ _ _ q => q).is (by simp [t1, t2, t3])))).is rfl) fun G6 H6 s8 A6 => ?_
      exact ⟨G6, F', s7.trans s8, A6, rfl, (s5.trans s6).trans s8, _, _, _, rfl⟩
    · rintro σ' G' F' H' s5 A5 ⟨rfl, s6, u1, u2, u3, rfl⟩
      have S6 := S4.trans s6
      refine s_meth (L := no) A5 no_sub rfl hx (ea4 (R := RWeb K a) (x := d.web) (S := RI) (y := d.p) (U := RT K RN) (V' := RT K (RTab K a)) (ev_var rfl (mn S6 r1)) (ev_var rfl rfl) (ev_var rfl (mn S6 r3)) (ev_var rfl (mn S6 r4))) d (fun G' vs s q => q) fun G7 H7 fl s7 A7 hf => ?_
      exact k G7 H7 fl (S4.trans (s5.trans s7)) A7 hf
end
end MW

set_option Elab.async false
set_option linter.all false
set_option maxRecDepth 100000
set_option maxHeartbeats 4000000
/-! What a turn makes of a picture, in plain Lean. -/
namespace MW
def cutN {α : Type} (xs : List α) (lo hi : Option Nat) : List α := (xs.drop (lo.elim 0 (min · xs.length))).take (hi.elim xs.length (min · xs.length) - lo.elim 0 (min · xs.length))
def nums (d : WebD) (q : Nat) : List Nat := if isE d q then endW d q else begW d q
def oth (d : WebD) (q i : Nat) : Nat := if isE d q then (ar d i).1 else (ar d i).2
def nears (d : WebD) (q : Nat) : List (Nat × Nat) := (nums d q).map fun i => (i, oth d q i)
def glued (d : PicD) (q : Nat) : List (List Int) := (List.range (sz d q)).map fun c => ((nums d.web q).map fun n => if isE d.web q then ro (tb d n).rows c else (tb d n).rows.map fun r => ix r c).flatten
def gw (d : PicD) (q : Nat) : Nat := ((nums d.web q).map fun n => sz d (oth d.web q n)).sum
def kept (d : PicD) (q : Nat) : List (List Int) := ker d.p (gw d q) (glued d q)
def flat (d : PicD) (q : Nat) : List (List Int) := ((nums d.web q).map fun n => (tb d n).rows).flatten
def joined (d : PicD) (q : Nat) : TabD := if isE d.web q then ⟨d.p, ((nums d.web q).map fun n => (tb d n).wide).sum, besideR (sz d q) ((nums d.web q).map (tb d))⟩ else ⟨d.p, sz d q, flat d q⟩
def newRows (d : PicD) (q b s : Nat) : List (List Int) := if isE d.web q then tr s ((kept d q).map fun r => cutN r (some b) (some (b + s))) else (kept d q).map fun r => cutN r (some b) (some (b + s))
def newTab (d : PicD) (q b s : Nat) : TabD := ⟨d.p, if isE d.web q then (kept d q).length else s, newRows d q b s⟩
def stepT (d : PicD) (q : Nat) (st : List TabD × Nat) (x : Nat × Nat) : List TabD × Nat := (st.1.set x.1 (newTab d q st.2 (sz d x.2)), st.2 + sz d x.2)
def foldT (d : PicD) (q k : Nat) : List TabD × Nat := ((nears d.web q).take k).foldl (stepT d q) (d.tabs, 0)
def turnP (d : PicD) (q : Nat) : PicD := ⟨turnW d.web q, d.p, cutN d.sizes none (some q) ++ [(kept d q).length] ++ cutN d.sizes (some (q + 1)) none, (foldT d q (nears d.web q).length).1⟩
theorem nums_lt {d : WebD} {q n : Nat} (h : n ∈ nums d q) : n < d.arrows.length := by
  unfold nums at h
  split at h
  · exact List.mem_range.mp (List.mem_filter.mp h).1
  · exact List.mem_range.mp (List.mem_filter.mp h).1
theorem nums_len {d : WebD} {q : Nat} : (nums d q).length ≤ d.arrows.length := by
  unfold nums
  split
  · exact Nat.le_trans (List.length_filter_le _ _) (by simp)
  · exact Nat.le_trans (List.length_filter_le _ _) (by simp)
theorem sz_le {d : PicD} (ok : okPic d) (i : Nat) : sz d i ≤ 6 := by
  unfold sz
  by_cases h : i < d.sizes.length
  · have e : d.sizes.getD i 0 = d.sizes[i] := by simp [h]
    rw [e]
    exact ok.sb _ (List.getElem_mem h)
  · simp [List.getD, h]
theorem side {d : PicD} (ok : okPic d) {q n : Nat} (h : n ∈ nums d.web q) : (isE d.web q = true → (tb d n).rows.length = sz d q ∧ (tb d n).wide = sz d (oth d.web q n)) ∧ (isE d.web q = false → (tb d n).wide = sz d q ∧ (tb d n).rows.length = sz d (oth d.web q n)) ∧ ∀ r ∈ (tb d n).rows, Wr d.p (tb d n).wide r := by
  obtain ⟨t1, t2, t3, t4⟩ := ok.t n (nums_lt h)
  unfold nums at h
  refine ⟨fun e => ?_, fun e => ?_, t4⟩
  · rw [e] at h
    simp only [if_true] at h
    have := (List.mem_filter.mp h).2
    simp at this
    rw [this] at t2
    unfold oth
    rw [e]
    exact ⟨t2, t3⟩
  · rw [e] at h
    simp only [Bool.false_eq_true, if_false] at h
    have := (List.mem_filter.mp h).2
    simp at this
    rw [this] at t3
    unfold oth
    rw [e]
    exact ⟨t3, t2⟩
theorem sum_le' {α : Type} (f : α → Nat) (b : Nat) : ∀ l : List α, (∀ x ∈ l, f x ≤ b) → (l.map f).sum ≤ l.length * b := sum_le f b
theorem gw_le {d : PicD} (ok : okPic d) (q : Nat) : gw d q ≤ 72 := by
  have h1 := sum_le (fun n => sz d (oth d.web q n)) 6 (nums d.web q) fun n _ => sz_le ok _
  have h2 := @nums_len d.web q
  have h3 := ok.web.a
  unfold gw
  omega
theorem flat_len {α β : Type} (f : α → List β) (g : α → Nat) : ∀ l : List α, (∀ x ∈ l, (f x).length = g x) → (l.map f).flatten.length = (l.map g).sum
  | [], _ => rfl
  | x :: l, h => by
    rw [List.map_cons, List.flatten_cons, List.length_append, List.map_cons, List.sum_cons, h x List.mem_cons_self, flat_len f g l fun y hy => h y (List.mem_cons_of_mem _ hy)]
theorem glued_len (d : PicD) (q : Nat) : (glued d q).length = sz d q := by unfold glued; simp
section
variable {d : PicD} (ok : okPic d) {q : Nat}
theorem glued_E (e : isE d.web q = true) : glued d q = besideR (sz d q) ((nums d.web q).map (tb d)) := by
  unfold glued besideR
  refine List.map_congr_left fun c _ => ?_
  rw [List.map_map]
  simp only [e, if_true]
  rfl
theorem glued_N (e : isE d.web q = false) : glued d q = tr (sz d q) (flat d q) := by
  unfold glued tr flat
  refine List.map_congr_left fun c _ => ?_
  simp only [e, Bool.false_eq_true, if_false]
  rw [List.map_flatten, List.map_map]
  rfl
include ok
theorem gw_E (e : isE d.web q = true) : ((nums d.web q).map fun n => (tb d n).wide).sum = gw d q := by
  unfold gw
  congr 1
  exact List.map_congr_left fun n hn => ((side ok hn).1 e).2
theorem gw_N (e : isE d.web q = false) : (flat d q).length = gw d q := flat_len _ _ _ fun n hn => ((side ok hn).2.1 e).2
theorem flat_wr (e : isE d.web q = false) : ∀ r ∈ flat d q, Wr d.p (sz d q) r := fun r hr => by
  obtain ⟨l, hl, hr⟩ := List.mem_flatten.mp hr
  obtain ⟨n, hn, rfl⟩ := List.mem_map.mp hl
  have h := side ok hn
  rw [← (h.2.1 e).1]
  exact h.2.2 r hr
theorem glued_wr : ∀ r ∈ glued d q, Wr d.p (gw d q) r := fun r hr => by
  have p1 := ok.p.fp.pos
  cases e : isE d.web q with
  | true =>
    unfold glued at hr
    obtain ⟨c, hc, rfl⟩ := List.mem_map.mp hr
    have hc := List.mem_range.mp hc
    simp only [e, if_true]
    refine ⟨flat_len _ _ _ fun n hn => ?_, fun x hx => ?_⟩
    · have h := side ok hn
      rw [((h.2.2) _ (ro_mem (by rw [(h.1 e).1]; exact hc))).1, (h.1 e).2]
    · obtain ⟨l, hl, hx⟩ := List.mem_flatten.mp hx
      obtain ⟨n, hn, rfl⟩ := List.mem_map.mp hl
      have h := side ok hn
      exact ((h.2.2) _ (ro_mem (by rw [(h.1 e).1]; exact hc))).2 x hx
  | false =>
    rw [glued_N e] at hr
    rw [← gw_N ok e]
    exact wr_tr (by omega) (flat_wr ok e) r hr
theorem worthG : Worth ⟨d.p, gw d q, glued d q⟩ := ⟨ok.p.fp, glued_wr ok, by have := gw_le ok q; dsimp only; omega, by have := sz_le ok q; dsimp only; rw [glued_len]; omega⟩
theorem joined_E (e : isE d.web q = true) : joined d q = ⟨d.p, gw d q, glued d q⟩ := by
  unfold joined
  rw [e, if_pos rfl, gw_E ok e, glued_E e]
theorem joined_N (e : isE d.web q = false) : joined d q = ⟨d.p, sz d q, flat d q⟩ := by
  unfold joined
  rw [e]
  rfl
theorem worthJ : Worth (joined d q) := by
  cases e : isE d.web q with
  | true => rw [joined_E ok e]; exact worthG ok
  | false =>
    rw [joined_N ok e]
    exact ⟨ok.p.fp, flat_wr ok e, by have := sz_le ok q; dsimp only; omega, by have := gw_le ok q; dsimp only; rw [gw_N ok e]; omega⟩
theorem rank_j : (red d.p (joined d q).wide (joined d q).rows).length = (red d.p (gw d q) (glued d q)).length := by
  cases e : isE d.web q with
  | true => rw [joined_E ok e]
  | false =>
    rw [joined_N ok e, ← gw_N ok e, glued_N e]
    exact (rank_tr ok.p.fp (flat_wr ok e)).symm
theorem turned_j (e : isE d.web q = false) : (⟨d.p, (flat d q).length, tr (sz d q) (flat d q)⟩ : TabD) = ⟨d.p, gw d q, glued d q⟩ := by rw [gw_N ok e, glued_N e]
theorem kept_wr : ∀ r ∈ kept d q, Wr d.p (gw d q) r := by
  have p1 := ok.p.fp.pos
  exact (good ok.p.fp (freeC_wr (by omega))).wf
theorem kept_le : (kept d q).length ≤ gw d q := by
  have := ker_len ok.p.fp (glued_wr ok (q := q))
  unfold kept
  omega
theorem kept_eq : (kept d q).length = gw d q - (red d.p (gw d q) (glued d q)).length := by
  have := ker_len ok.p.fp (glued_wr ok (q := q))
  unfold kept
  omega
omit ok
theorem foldT_succ {k : Nat} {x : Nat × Nat} (h : (nears d.web q)[k]? = some x) : foldT d q (k + 1) = stepT d q (foldT d q k) x := by
  unfold foldT
  rw [List.take_add_one, h, List.foldl_append]
  rfl
theorem foldT_off : ∀ k, (foldT d q k).2 = (((nears d.web q).take k).map fun x => sz d x.2).sum
  | 0 => rfl
  | k + 1 => by
    cases h : (nears d.web q)[k]? with
    | none =>
      have e : (nears d.web q).take (k + 1) = (nears d.web q).take k := by rw [List.take_add_one, h]; simp
      unfold foldT
      rw [e]
      exact foldT_off k
    | some x =>
      rw [foldT_succ h, List.take_add_one, h]
      show (foldT d q k).2 + sz d x.2 = _
      rw [foldT_off k]
      simp
theorem foldT_len : ∀ k, (foldT d q k).1.length = d.tabs.length
  | 0 => by unfold foldT; rfl
  | k + 1 => by
    cases h : (nears d.web q)[k]? with
    | none =>
      have e : (nears d.web q).take (k + 1) = (nears d.web q).take k := by rw [List.take_add_one, h]; simp
      unfold foldT
      rw [e]
      exact foldT_len k
    | some x =>
      rw [foldT_succ h]
      show ((foldT d q k).1.set _ _).length = _
      rw [List.length_set]
      exact foldT_len k
theorem sum_take_le : ∀ (l : List Nat) (k : Nat) (x : Nat), l[k]? = some x → (l.take k).sum + x ≤ l.sum
  | [], k, x, h => by simp at h
  | y :: l, 0, x, h => by
    simp at h
    subst h
    simp
  | y :: l, k + 1, x, h => by
    have := sum_take_le l k x (by simpa using h)
    simp
    omega
theorem off_le {k : Nat} {x : Nat × Nat} (h : (nears d.web q)[k]? = some x) : (foldT d q k).2 + sz d x.2 ≤ gw d q := by
  rw [foldT_off, List.map_take]
  have e : (nears d.web q).map (fun x => sz d x.2) = (nums d.web q).map fun n => sz d (oth d.web q n) := by
    unfold nears
    rw [List.map_map]
    rfl
  have := sum_take_le ((nears d.web q).map fun x => sz d x.2) k (sz d x.2) (by rw [List.getElem?_map, h]; rfl)
  unfold gw
  rw [← e]
  exact this
end
theorem cut_len {r : List Int} {b s : Nat} (h : b + s ≤ r.length) : (cutN r (some b) (some (b + s))).length = s := by
  unfold cutN
  simp only [Option.elim_some, List.length_take, List.length_drop]
  omega
theorem cut_le {α : Type} (xs : List α) (lo hi : Option Nat) : (cutN xs lo hi).length ≤ xs.length := by
  unfold cutN
  rw [List.length_take, List.length_drop]
  omega
theorem nears_len (d : WebD) (q : Nat) : (nears d q).length = (nums d q).length := by unfold nears; simp
theorem nears_get {d : WebD} {q k : Nat} {x : Nat × Nat} (h : (nears d q)[k]? = some x) : x.1 ∈ nums d q ∧ x.2 = oth d q x.1 := by
  have := List.mem_of_getElem? h
  unfold nears at this
  obtain ⟨n, hn, e⟩ := List.mem_map.mp this
  subst e
  exact ⟨hn, rfl⟩
end MW

set_option Elab.async false
set_option linter.all false
set_option maxRecDepth 100000
set_option maxHeartbeats 4000000
/-! Slices, tuples one behind another, raising. -/
namespace MW
open PySem PySem.Spec PyProof.Rows L2
section
variable {α β : Type} {K : Fg} {σ : L2.St} {G L : Hp} {ta tb te : TE} {tl th : TO} {R : Rel α} {S : Rel β} {x : α} {y : β}
def EvO (to : TO) (σ : L2.St) (G L : Hp) (o : Option Nat) : Prop :=
  ∀ G1 F H, Same G G1 → Same L F → At G1 F H → ∀ Q : Option Int → Hp → Prop, (∀ G2 H2, Same G1 G2 → At G2 F H2 → Q (o.map fun (n : Nat) => (n : Int)) H2) → to σ H Q
theorem eo_none : EvO tNoPart σ G L none := fun G1 F H s c A Q q => q G1 H (Same.refl _) A
theorem eo_some {n : Nat} (h : Ev ta σ G L RN n) : EvO (tPart ta) σ G L (some n) := fun G1 F H s c A Q q => h G1 F H s c A _ fun v G2 H2 s2 A2 r => ⟨n, r, q G2 H2 s2 A2⟩
theorem sIx_opt (n d : Nat) (o : Option Nat) : HT.sIx n d (o.map fun (n : Nat) => (n : Int)) = o.elim d (min · n) := by
  cases o with
  | none => rfl
  | some k => exact HT.sIx_nat n d k
theorem cut_p {G : Hp} {vs : List V} {xs : List α} {lo hi : Option Nat} (p : Paired (R G) vs xs) : Paired (R G) (cutV vs (lo.map fun (n : Nat) => (n : Int)) (hi.map fun (n : Nat) => (n : Int))) (cutN xs lo hi) := by
  unfold cutV cutN
  rw [sIx_opt, sIx_opt, Paired.len p]
  exact ptake _ (pdrop _ p)
theorem cut_all {xs : List V} {lo hi : Option Int} (h : HT.sIx xs.length 0 lo = 0 ∧ HT.sIx xs.length xs.length hi = xs.length) : cutV xs lo hi = xs := by
  unfold cutV
  rw [h.1, h.2]
  simp
theorem ev_slT [Mn R] {xs : List α} {lo hi : Option Nat} (h : Ev ta σ G L (RT K R) xs) (h1 : EvO tl σ G L lo) (h2 : EvO th σ G L hi) : Ev (tSl (rSl K) ta tl th) σ G L (RT K R) (cutN xs lo hi) := fun G1 F H s c A Q q =>
  h G1 F H s c A _ fun v G2 H2 s2 A2 ⟨a, vs, e, hq, p⟩ => h1 G2 F H2 (s.trans s2) c A2 _ fun G3 H3 s3 A3 => h2 G3 F H3 ((s.trans s2).trans s3) c A3 _ fun G4 H4 s4 A4 => by
    have hq' : SqT K H4 a vs := sqtS (s3.trans (s4.trans A4.g)) hq
    have S := s2.trans (s3.trans s4)
    refine .inr ⟨a, vs, e, hq', fun hw => ?_, fun hw p' hp' => ?_⟩
    · refine q _ G4 H4 S A4 ⟨a, vs, rfl, sqtS (s3.trans s4) hq, ?_⟩
      have := cut_p (lo := lo) (hi := hi) (pairedS (s3.trans s4) p)
      rwa [cut_all hw] at this
    · have s5 := same_new (o := .tup (cutV vs (lo.map fun (n : Nat) => (n : Int)) (hi.map fun (n : Nat) => (n : Int)))) (A4.nG hp')
      exact q _ _ _ (S.trans s5) (A4.new hp') ⟨p', _, rfl, .inl (.inl upd_same), cut_p (pairedS ((s3.trans s4).trans s5) p)⟩
theorem ev_slL [Mn R] {xs : List α} {lo hi : Option Nat} (h : Ev ta σ G L (RL K R) xs) (h1 : EvO tl σ G L lo) (h2 : EvO th σ G L hi) : EvF (tSl (rSl K) ta tl th) σ G L R (cutN xs lo hi) := fun G1 F H s c A Q q =>
  h G1 F H s c A _ fun v G2 H2 s2 A2 ⟨a, vs, e, hq, p⟩ => h1 G2 F H2 (s.trans s2) c A2 _ fun G3 H3 s3 A3 => h2 G3 F H3 ((s.trans s2).trans s3) c A3 _ fun G4 H4 s4 A4 => by
    have hq' : SqL K H4 a vs := sqlS (s3.trans (s4.trans A4.g)) hq
    have S := s2.trans (s3.trans s4)
    exact .inl ⟨a, vs, e, hq', fun p' hp' => q p' _ G4 _ S (A4.nF hp') (A4.nG hp') (A4.newF hp') (cut_p (pairedS (s3.trans s4) p))⟩
theorem ev_catA [Mn R] {xs ys : List α} (h1 : Ev ta σ G L (RT K R) xs) (h2 : Ev tb σ G L (RT K R) ys) (hz : xs.length + ys.length ≤ 1000000) : Ev (tOp (rCatA K) ta tb) σ G L (RT K R) (xs ++ ys) :=
  ev_bin h1 h2 fun v u G1 F H _ _ A ⟨a, vs, e1, q1, p1⟩ ⟨b, ws, e2, q2, p2⟩ Q q => by
    have hp := papp p1 p2
    refine ⟨a, b, vs, ws, e1, e2, sqtS A.g q1, sqtS A.g q2, by rw [Paired.len p1, Paired.len p2, sizeLine_eq]; omega, fun ez => ?_, fun en ez => ?_, fun _ _ p hp' => ?_⟩
    · subst ez
      exact q _ G1 H (Same.refl _) A ⟨b, ws, rfl, q2, hp⟩
    · subst ez
      rw [List.append_nil] at hp
      exact q _ G1 H (Same.refl _) A ⟨a, vs, rfl, q1, hp⟩
    · have s5 := same_new (o := .tup (vs ++ ws)) (A.nG hp')
      exact q _ _ _ s5 (A.new hp') ⟨p, _, rfl, .inl (.inl upd_same), pairedS s5 hp⟩
end
/-! ### raising -/
section
variable {X : Cx} {C : Addr} {bmB : List Value} {B newId initId : String}
/-- X() -/
theorem pmk_own0 {x : Str} {p pos : Pos} (F : ExcBaseFacts B newId initId bmB) (q : PySem.W.excIn X.K C bmB newId = true) (gC : X.mg x = some (.ref C)) (kC : PySem.W.keepIn X.K (.ref C) = true) (r : Raises X (.ref C)) (hg : Gl X x)
    (hdb : (x == ("__debug__" : Str)) = false := by decide) : PMk X (.Call (.Name x p) [] [] pos) (fun _ H Q => Q (.ref C) none H) := by
  intro pins s σ H Q I h
  refine wpAny_Call_Name_kw (ld_glob I hg gC ?_ hdb)
  refine PySem.W.callWith_K0 I.kIn kC ?_
  obtain ⟨bm, N, nm, qn, bs, hdct, sn, sub, ab, col, dd, k0, k1, k2, k3, k5, mN, hC, hN, hni, T⟩ := exc_obj I.kIn q
  refine wpAny_call_exc_subT F T hC hN hni (fun h' e hm => ?_) (by show 0 ≤ sizeLine; exact Nat.zero_le _)
  exact mk_of I hm r h (I.hok.gone hm.new)
end
/-- a def that may raise: where ok does not hold, C is raised and nothing else changes -/
def SpX {ι : Type} (C : Addr) (pre : ι → Hp → List V → Prop) (okB : ι → Bool) (post : ι → Hp → V → Prop) : Sp := fun vs H Q E =>
  ∃ (i : ι) (G F : Hp), At G F H ∧ pre i G vs ∧ (okB i = true → ∀ v G' H', Same G G' → At G' F H' → post i G' v → Q v H') ∧ (okB i = false → ∀ G' H', Same G G' → At G' F H' → E (.ref C) none H')
section
variable {α ι : Type} {K : Fg} {σ : L2.St} {G F H L : Hp} {ta : TA} {R : Rel α} {x : α} {D : Ends} {C : Addr}
theorem ev_callX {pre : ι → Hp → List V → Prop} {okB : ι → Bool} {post : ι → Hp → V → Prop} {P : Hp → List V → Prop} {E : XK} (i : ι) (ha : EvA ta σ G L P) (h1 : ∀ G' vs, Same G G' → P G' vs → pre i G' vs) (hok : okB i = true) (h2 : ∀ G' v, Same G G' → post i G' v → R G' v x) : Ev (tCall (SpX C pre okB post) [] E ta) σ G L R x := fun G1 F H s c A Q q =>
  ha G1 F H s c A _ fun vs G2 H2 s2 A2 p => ⟨i, G2, F, A2, by rw [List.append_nil]; exact h1 _ _ (s.trans s2) p, fun _ v G' H' s3 A3 hp => q v G' H' (s2.trans s3) A3 (h2 _ _ ((s.trans s2).trans s3) hp), fun z => by rw [hok] at z; cases z⟩
/-- a call for its raising alone -/
theorem s_check {pre : ι → Hp → List V → Prop} {okB : ι → Bool} {post : ι → Hp → V → Prop} {P : Hp → List V → Prop} {E : XK} (A : At G F H) (c : Same L F) (i : ι) (ha : EvA ta σ G L P) (h1 : ∀ G' vs, Same G G' → P G' vs → pre i G' vs)
    (k1 : okB i = true → ∀ G' H', Same G G' → At G' F H' → D.nx σ H') (k2 : okB i = false → ∀ G' H', Same G G' → At G' F H' → E (.ref C) none H') : tDrop (tCall (SpX C pre okB post) [] E ta) D σ H :=
  ha G F H (Same.refl _) c A _ fun vs G2 H2 s2 A2 p => ⟨i, G2, F, A2, by rw [List.append_nil]; exact h1 _ _ s2 p, fun e v G' H' s3 A3 _ => k1 e G' H' (s2.trans s3) A3, fun e G' H' s3 A3 => k2 e G' H' (s2.trans s3) A3⟩
end
section
variable {X : Cx}
/-- a def that raises, where that is let out -/
theorem pe_fdX {x : Str} {ps : List Str} {k : Nat} {sp : Sp} {e : Expr} {es : List Expr} {p pos : Pos} {t : TA} {E : XK} (F : Fd X.prog X.w X.K X.mg X.base (L2.CX X.prog X.w) x ps k sp) (hr : Room k X.A) (hx : Passes (L2.CX X.prog X.w) X E) (hg : Gl X x) (ha : PA X (e :: es) t) (hdb : (x == ("__debug__" : Str)) = false := by decide)
    (he : starEach (e :: es) X.env = (false, eval e X.env) :: starEach es X.env := by rfl) (hpl : (backTo pos (starEach es X.env)).any (·.1) = false := by rfl) : PE X (.Call (.Name x p) (e :: es) [] pos) (tCall sp [] E t) := by
  obtain ⟨f, fd, G, hm, hk, hb⟩ := F.ex
  exact pe_call G hr hg hm hk hb .nil hx ha hdb he hpl
end
end MW

set_option Elab.async false
set_option linter.all false
set_option maxRecDepth 100000
set_option maxHeartbeats 4000000
/-! Walks: turns. -/
namespace MW
open PySem PySem.Spec PyProof.Rows L2
theorem isEO_nat {d : WebD} {q : Nat} (h : q < d.many) : isEO d (some (q : Int)) = isE d q := by
  unfold isEO
  rw [inR_nat (by omega), Bool.true_and]
  rfl
theorem isBO_nat {d : WebD} {q : Nat} (h : q < d.many) : isBO d (some (q : Int)) = isB d q := by
  unfold isBO
  rw [inR_nat (by omega), Bool.true_and]
  rfl
def okT (d : WebD) (x : Option Int) : Bool := isEO d x || isBO d x
theorem okT_lt {d : WebD} {x : Option Int} (h : okT d x = true) : x = some (xn x : Int) ∧ xn x < d.many := by
  unfold okT isEO isBO at h
  have : inR x 0 ((d.many : Int) - 1) = true := by
    cases e : inR x 0 ((d.many : Int) - 1)
    · rw [e] at h; simp at h
    · rfl
  have q := inR_some this
  exact ⟨q.1, by omega⟩
/-- past an if that did nothing -/
theorem nt {t : TS} {D : Ends} {r : VK} {b c : L2.St → Hp → Prop} {σ : L2.St} {H : Hp} (h : t D σ H) : tNext (Ends.mk (t D) r b c) σ H := h
section
variable {P : Program} {w : World} {K : Fg} {mg : Str → Option Value} {base : Heap} {a : Adr}
def preWP (K : Fg) (a : Adr) (i : WebD × Nat) (G : Hp) (vs : List V) : Prop := ∃ v1 v2, vs = [v1, v2] ∧ RWeb K a G v1 i.1 ∧ RN G v2 i.2 ∧ okWeb i.1 ∧ i.2 < i.1.many
def prePP (K : Fg) (a : Adr) (i : PicD × Nat) (G : Hp) (vs : List V) : Prop := ∃ v1 v2, vs = [v1, v2] ∧ RPic K a G v1 i.1 ∧ RN G v2 i.2 ∧ okPic i.1 ∧ i.2 < i.1.web.many
def preWX (K : Fg) (a : Adr) (i : WebD × Option Int) (G : Hp) (vs : List V) : Prop := ∃ v1 v2, vs = [v1, v2] ∧ RWeb K a G v1 i.1 ∧ RO K G v2 i.2 ∧ okWeb i.1
def prePX (K : Fg) (a : Adr) (i : PicD × Option Int) (G : Hp) (vs : List V) : Prop := ∃ v1 v2, vs = [v1, v2] ∧ RPic K a G v1 i.1 ∧ RO K G v2 i.2 ∧ okPic i.1

/-! near_places -/
-- 0 web 1 place 2 index; cells web
abbrev sNearPlaces : Stmt := top 47
abbrev nNearPlaces : List Str := ["web", "place", "index"]
abbrev pNearPlaces : List Str := ["web", "place"]
theorem scNearPlaces : FnScope nNearPlaces pNearPlaces (defScope sNearPlaces) := ⟨rfl, rfl, rfl, by decide +kernel, rfl, by decide +kernel, by decide +kernel⟩
def spNearPlaces (K : Fg) (a : Adr) : Sp := SpP (preWP K a) (fun i G v => RL K (RP K RN RN) G v (nears i.1 i.2))
theorem ok_NearPlaces (T : Txt K mg a) (h : Has K mg "near_places" sNearPlaces pNearPlaces) (G_is_end : Fd P w K mg base CX0 "is_end" pIsEnd 4 (spIsEnd K a)) (G_begins_at : Fd P w K mg base CX0 "begins_at" pBeginsAt 1 (spBeginsAt K a)) (G_ends_at : Fd P w K mg base CX0 "ends_at" pEndsAt 1 (spEndsAt K a)) : Fd P w K mg base CX0 "near_places" pNearPlaces 5 (spNearPlaces K a) := by
  refine h.ok scNearPlaces (fun vs H Q E h => ?_) (fun f cdv A outer s H vs Q E hr h => ?_)
  · obtain ⟨i, G, F, _, ⟨v1, v2, rfl, _⟩, _⟩ := h
    rfl
  · obtain ⟨⟨d, q⟩, G, F, hA, ⟨v1, v2, rfl, r1, r2, ok, hq⟩, k⟩ := h
    dsimp only at r1 r2 ok hq
    have nd := scNearPlaces.nd
    refine ⟨_, (pss_cons (ps_if (pt_val (pe_fd G_is_end (hr.mono (by decide)) (by rfl) (pa_cons (pv 0) (pa_cons (pv 1) pa_nil))))
        (pss_one (ps_ret (pe_lc (own := [("index", 2)]) (g := (gName 2)) (tt := tYes) rfl nd (k_seq (K := K) rfl (pe_fd G_ends_at (hr.mono (by decide)) (by rfl) (pa_cons (pv 0) (pa_cons (pv 1) pa_nil)))) (blkOk_by (N := nNearPlaces) (sc := defScope sNearPlaces) (by decide +kernel)) (fun _ _ _ _ _ => (pg_name (i := 2) nd rfl (by first | exact Or.inl rfl | exact Or.inr rfl))) (fun _ _ _ _ _ => pts_nil) (fun _ _ _ _ _ => (pe_tup (pa_cons (pv 2) (pa_cons (pe_ix (k_ix (K := K) rfl) (pe_ix (k_ix (K := K) rfl) (k_fld (K := K) rfl (pv 0) rfl) (pv 2) (fun _ _ => rfl)) pe_int (fun _ _ => rfl)) pa_nil)))))))
        pss_nil)
      (pss_one (ps_ret (pe_lc (own := [("index", 2)]) (g := (gName 2)) (tt := tYes) rfl nd (k_seq (K := K) rfl (pe_fd G_begins_at (hr.mono (by decide)) (by rfl) (pa_cons (pv 0) (pa_cons (pv 1) pa_nil)))) (blkOk_by (N := nNearPlaces) (sc := defScope sNearPlaces) (by decide +kernel)) (fun _ _ _ _ _ => (pg_name (i := 2) nd rfl (by first | exact Or.inl rfl | exact Or.inr rfl))) (fun _ _ _ _ _ => pts_nil) (fun _ _ _ _ _ => (pe_tup (pa_cons (pv 2) (pa_cons (pe_ix (k_ix (K := K) rfl) (pe_ix (k_ix (K := K) rfl) (k_fld (K := K) rfl (pv 0) rfl) (pv 2) (fun _ _ => rfl)) pe_int (fun _ _ => rfl)) pa_nil)))))))), ?_⟩
    have ha := ok.a
    refine s_if (L := no) hA no_sub (b := isE d q) (et_test ((ev_isEnd (ev_var rfl r1) (Ev.ro (ev_var (R := RN) (x := q) rfl r2).ni) (by omega)).is (isEO_nat hq))) (fun hb G1 H1 s1 A1 => ?_) fun hb G1 H1 s1 A1 => ?_
    · refine s_ret (L := no) A1 no_sub (R := RL K (RP K RN RN)) (x := nears d q) (Ev.is (EvF.ev (ef_lcX (S := RP K RN RN) (ei_seqL (ev_ends (ev_var rfl (mn s1 r1)) (ev_var rfl (mn s1 r2)) (by omega))) (fun i => (i, (ar d i).1)) (by have := List.length_filter_le (fun i => (ar d i).2 == q) (List.range d.arrows.length); rw [List.length_range] at this; unfold endW; omega) fun i u G2 hi s2 q2 => ?_)) ?_) fun v G' H' s A q => k v G' H' (s1.trans s) A q
      · have hi' := List.mem_range.mp (List.mem_filter.mp hi).1
        exact ev_tup2 (ev_var rfl q2) (ev_ixP0 (ev_ixT (n := i) (ev_wArr T (ev_var rfl (mn (s1.trans s2) r1))) (ev_var (R := RN) rfl q2).ni rfl (getD_some hi' (0, 0))))
      · unfold nears nums oth
        simp only [hb, if_true]
    · refine nt ?_
      refine s_ret (L := no) A1 no_sub (R := RL K (RP K RN RN)) (x := nears d q) (Ev.is (EvF.ev (ef_lcX (S := RP K RN RN) (ei_seqL (ev_begins (ev_var rfl (mn s1 r1)) (ev_var rfl (mn s1 r2)) (by omega))) (fun i => (i, (ar d i).2)) (by have := List.length_filter_le (fun i => (ar d i).1 == q) (List.range d.arrows.length); rw [List.length_range] at this; unfold begW; omega) fun i u G2 hi s2 q2 => ?_)) ?_) fun v G' H' s A q => k v G' H' (s1.trans s) A q
      · have hi' := List.mem_range.mp (List.mem_filter.mp hi).1
        exact ev_tup2 (ev_var rfl q2) (ev_ixP1 (ev_ixT (n := i) (ev_wArr T (ev_var rfl (mn (s1.trans s2) r1))) (ev_var (R := RN) rfl q2).ni rfl (getD_some hi' (0, 0))))
      · unfold nears nums oth
        simp only [hb, Bool.false_eq_true, if_false]
theorem ev_near {σ : L2.St} {G L : Hp} {ta tb : TE} {E : XK} {d : WebD} {q : Nat} (h1 : Ev ta σ G L (RWeb K a) d) (h2 : Ev tb σ G L RN q) (ok : okWeb d) (hq : q < d.many) : Ev (tCall (spNearPlaces K a) [] E (tCons ta (tCons tb tNil))) σ G L (RL K (RP K RN RN)) (nears d q) :=
  ev_call (d, q) (ea2 h1 h2) (fun G' vs s ⟨z1, z2, e, q1, q2⟩ => ⟨z1, z2, e, q1, q2, ok, hq⟩) fun _ _ _ q => q

/-! joined_table -/
-- 0 picture 1 place 2 tables 3 index 4 other; cells picture
abbrev sJoinedTable : Stmt := top 48
abbrev nJoinedTable : List Str := ["picture", "place", "tables", "index", "other"]
abbrev pJoinedTable : List Str := ["picture", "place"]
theorem scJoinedTable : FnScope nJoinedTable pJoinedTable (defScope sJoinedTable) := ⟨rfl, rfl, rfl, by decide +kernel, rfl, by decide +kernel, by decide +kernel⟩
def spJoinedTable (K : Fg) (a : Adr) : Sp := SpP (prePP K a) (fun i G v => RTab K a G v (joined i.1 i.2))
theorem ok_JoinedTable (T : Txt K mg a) (h : Has K mg "joined_table" sJoinedTable pJoinedTable) (G_is_end : Fd P w K mg base CX0 "is_end" pIsEnd 4 (spIsEnd K a)) (G_near_places : Fd P w K mg base CX0 "near_places" pNearPlaces 5 (spNearPlaces K a)) (G_beside_rows : Fd P w K mg base CX0 "beside_rows" pBesideRows 4 (spBesideRows K a)) (G_beneath_rows : Fd P w K mg base CX0 "beneath_rows" pBeneathRows 4 (spBeneathRows K a)) : Fd P w K mg base CX0 "joined_table" pJoinedTable 6 (spJoinedTable K a) := by
  refine h.ok scJoinedTable (fun vs H Q E h => ?_) (fun f cdv A outer s H vs Q E hr h => ?_)
  · obtain ⟨i, G, F, _, ⟨v1, v2, rfl, _⟩, _⟩ := h
    rfl
  · obtain ⟨⟨d, q⟩, G, F, hA, ⟨v1, v2, rfl, r1, r2, ok, hq⟩, k⟩ := h
    dsimp only at r1 r2 ok hq
    have nd := scJoinedTable.nd
    refine ⟨_, (pss_cons (ps_setLc (i := 2) (own := [("index", 3), ("other", 4)]) (g := (gTup K 2 (gCons (gName 3) (gCons (gName 4) gNil)))) (tt := tYes) rfl nd rfl rfl (sw_true rfl rfl rfl (by decide +kernel)) (k_seq (K := K) rfl (pe_fd G_near_places (hr.mono (by decide)) (by rfl) (pa_cons (k_fld (K := K) rfl (pv 0) rfl) (pa_cons (pv 1) pa_nil)))) (blkOk_by (N := nJoinedTable) (sc := defScope sJoinedTable) (by decide +kernel)) (fun _ _ _ _ _ => (k_tup (K := K) rfl rfl (pgs_cons (pg_name (i := 3) nd rfl (by first | exact Or.inl rfl | exact Or.inr rfl)) (pgs_cons (pg_name (i := 4) nd rfl (by first | exact Or.inl rfl | exact Or.inr rfl)) pgs_nil)))) (fun _ _ _ _ _ => pts_nil) (fun _ _ _ _ _ => (pe_ix (k_ix (K := K) rfl) (k_fld (K := K) rfl (pv 0) rfl) (pv 3) (fun _ _ => rfl))))
      (pss_cons (ps_if (pt_val (pe_fd G_is_end (hr.mono (by decide)) (by rfl) (pa_cons (k_fld (K := K) rfl (pv 0) rfl) (pa_cons (pv 1) pa_nil))))
        (pss_one (ps_ret (pe_fd G_beside_rows (hr.mono (by decide)) (by rfl) (pa_cons (pv 2) (pa_cons (k_fld (K := K) rfl (pv 0) rfl) (pa_cons (pe_ix (k_ix (K := K) rfl) (k_fld (K := K) rfl (pv 0) rfl) (pv 1) (fun _ _ => rfl)) pa_nil))))))
        pss_nil)
      (pss_one (ps_ret (pe_fd G_beneath_rows (hr.mono (by decide)) (by rfl) (pa_cons (pv 2) (pa_cons (k_fld (K := K) rfl (pv 0) rfl) (pa_cons (pe_ix (k_ix (K := K) rfl) (k_fld (K := K) rfl (pv 0) rfl) (pv 1) (fun _ _ => rfl)) pa_nil)))))))), ?_⟩
    have ha := ok.web.a
    have hm := ok.web.m2
    have hn := @nums_len d.web q
    have hsl := ok.sl
    have htl := ok.tl
    refine s_asg (L := no) hA no_sub (R := RL K (RTab K a)) (x := (nums d.web q).map (tb d)) (Ev.is (EvF.ev (ef_lcP (R := RN) (S := RN) (T := RTab K a) (ei_seqL (ev_near (ev_pWeb T (ev_var rfl r1)) (ev_var rfl r2) ok.web hq)) (fun x => tb d x.1) (by rw [nears_len]; omega) fun x u1 u2 G2 hx s2 q1 q2 => ?_)) ?_) fun v2 G1 H1 s1 A1 q1 => ?_
    · obtain ⟨i, hi⟩ := List.getElem?_of_mem hx
      have := nums_lt (nears_get hi).1
      exact ev_ixT (n := x.1) (ev_pTabs T (ev_var rfl (mn s2 r1))) (ev_var (R := RN) rfl q1).ni rfl (getD_some (by omega) tb0)
    · unfold nears
      rw [List.map_map]
      rfl
    have hsz := sz_le ok q
    have hS : ∀ {G'}, Same G1 G' → Ev (tOp (rIx K) (tFld K (tVar 0) "sizes") (tVar 1)) [some v1, some v2, some v2, none, none] G' no RN (sz d q) → True := fun _ _ => trivial
    refine s_if (L := no) A1 no_sub (b := isE d.web q) (et_test ((ev_isEnd (ev_pWeb T (ev_var rfl (mn s1 r1))) (Ev.ro (ev_var (R := RN) (x := q) rfl (mn s1 r2)).ni) (by omega)).is (isEO_nat hq))) (fun hb G2 H2 s2 A2 => ?_) fun hb G2 H2 s2 A2 => ?_
    · have S2 := s1.trans s2
      have r1' := mn S2 r1
      have r2' := mn S2 r2
      have q1' := mn s2 q1
      refine s_ret (L := no) A2 no_sub (R := RTab K a) (x := joined d q) (ev_call ((nums d.web q).map (tb d), d.p, sz d q) (ea3 (R := RL K (RTab K a)) (S := RI) (U := RN) (ev_var rfl q1') (ev_pPrime T (ev_var rfl r1')) (ev_ixT (n := q) (ev_pSizes T (ev_var rfl r1')) (ev_var (R := RN) rfl r2').ni rfl (getD_some (by omega) 0))) (fun G' vs s ⟨z1, z2, z3, e, q1, q2, q3⟩ => ⟨z1, z2, z3, e, q1, q2, q3, fun t ht => ?_, by dsimp only; omega, by dsimp only; rw [List.length_map]; omega⟩) fun G' v s qq => ?_) fun v G' H' s A q => k v G' H' (S2.trans s) A q
      · obtain ⟨n, hn', e⟩ := List.mem_map.mp ht
        subst e
        have h := side ok hn'
        have e1 := (h.1 hb)
        have e2 := sz_le ok (oth d.web q n)
        refine ⟨e1.1, ⟨fun r hr => (h.2.2 r hr).1, by omega, by omega⟩, by omega⟩
      · dsimp only at qq
        rw [List.map_map] at qq
        unfold joined
        rw [hb, if_pos rfl]
        exact qq
    · have S2 := s1.trans s2
      have r1' := mn S2 r1
      have r2' := mn S2 r2
      have q1' := mn s2 q1
      refine nt ?_
      refine s_ret (L := no) A2 no_sub (R := RTab K a) (x := joined d q) (ev_call ((nums d.web q).map (tb d), d.p, sz d q) (ea3 (R := RL K (RTab K a)) (S := RI) (U := RN) (ev_var rfl q1') (ev_pPrime T (ev_var rfl r1')) (ev_ixT (n := q) (ev_pSizes T (ev_var rfl r1')) (ev_var (R := RN) rfl r2').ni rfl (getD_some (by omega) 0))) (fun G' vs s ⟨z1, z2, z3, e, q1, q2, q3⟩ => ⟨z1, z2, z3, e, q1, q2, q3, fun t ht => ?_, by dsimp only; rw [List.length_map]; omega⟩) fun G' v s qq => ?_) fun v G' H' s A q => k v G' H' (S2.trans s) A q
      · obtain ⟨n, hn', e⟩ := List.mem_map.mp ht
        subst e
        have h := side ok hn'
        have e1 := (h.2.1 hb)
        have e2 := sz_le ok (oth d.web q n)
        omega
      · dsimp only at qq
        rw [List.map_map] at qq
        unfold joined
        rw [hb]
        exact qq
theorem ev_joined {σ : L2.St} {G L : Hp} {ta tb : TE} {E : XK} {d : PicD} {q : Nat} (h1 : Ev ta σ G L (RPic K a) d) (h2 : Ev tb σ G L RN q) (ok : okPic d) (hq : q < d.web.many) : Ev (tCall (spJoinedTable K a) [] E (tCons ta (tCons tb tNil))) σ G L (RTab K a) (joined d q) :=
  ev_call (d, q) (ea2 h1 h2) (fun G' vs s ⟨z1, z2, e, q1, q2⟩ => ⟨z1, z2, e, q1, q2, ok, hq⟩) fun _ _ _ q => q

/-! kept_rows -/
-- 0 picture 1 place 2 table; cells 
abbrev sKeptRows : Stmt := top 49
abbrev nKeptRows : List Str := ["picture", "place", "table"]
abbrev pKeptRows : List Str := ["picture", "place"]
theorem scKeptRows : FnScope nKeptRows pKeptRows (defScope sKeptRows) := ⟨rfl, rfl, rfl, by decide +kernel, rfl, by decide +kernel, by decide +kernel⟩
def spKeptRows (K : Fg) (a : Adr) : Sp := SpP (prePP K a) (fun i G v => RT K (RT K RI) G v (kept i.1 i.2))
theorem ok_KeptRows (T : Txt K mg a) (h : Has K mg "kept_rows" sKeptRows pKeptRows) (G_joined_table : Fd P w K mg base CX0 "joined_table" pJoinedTable 6 (spJoinedTable K a)) (G_is_end : Fd P w K mg base CX0 "is_end" pIsEnd 4 (spIsEnd K a)) (G_kernel : Fd P w K mg base CX0 "kernel" pKernel 4 (spKernel K a)) (G_turned_about : Fd P w K mg base CX0 "turned_about" pTurnedAbout 4 (spTurnedAbout K a)) : Fd P w K mg base CX0 "kept_rows" pKeptRows 7 (spKeptRows K a) := by
  refine h.ok scKeptRows (fun vs H Q E h => ?_) (fun f cdv A outer s H vs Q E hr h => ?_)
  · obtain ⟨i, G, F, _, ⟨v1, v2, rfl, _⟩, _⟩ := h
    rfl
  · obtain ⟨⟨d, q⟩, G, F, hA, ⟨v1, v2, rfl, r1, r2, ok, hq⟩, k⟩ := h
    dsimp only at r1 r2 ok hq
    have nd := scKeptRows.nd
    refine ⟨_, (pss_cons (ps_set (i := 2) nd rfl (Or.inl rfl) (pe_fd G_joined_table (hr.mono (by decide)) (by rfl) (pa_cons (pv 0) (pa_cons (pv 1) pa_nil))))
      (pss_one (ps_ret (pe_ifExp (pt_val (pe_fd G_is_end (hr.mono (by decide)) (by rfl) (pa_cons (k_fld (K := K) rfl (pv 0) rfl) (pa_cons (pv 1) pa_nil)))) (pe_fd G_kernel (hr.mono (by decide)) (by rfl) (pa_cons (pv 2) pa_nil)) (pe_fd G_kernel (hr.mono (by decide)) (by rfl) (pa_cons (pe_fd G_turned_about (hr.mono (by decide)) (by rfl) (pa_cons (pv 2) pa_nil)) pa_nil)))))), ?_⟩
    have ha := ok.web.a
    refine s_asg (L := no) hA no_sub (R := RTab K a) (x := joined d q) (ev_joined (ev_var rfl r1) (ev_var rfl r2) ok hq) fun v3 G1 H1 s1 A1 q1 => ?_
    refine s_ret (L := no) A1 no_sub (R := RT K (RT K RI)) (x := kept d q) (ev_if (b := isE d.web q) (et_test ((ev_isEnd (ev_pWeb T (ev_var rfl (mn s1 r1))) (Ev.ro (ev_var (R := RN) (x := q) rfl (mn s1 r2)).ni) (by omega)).is (isEO_nat hq))) (fun hb => ?_) fun hb => ?_) fun v G' H' s A q => k v G' H' (s1.trans s) A q
    · rw [joined_E ok hb] at q1
      exact ev_call ⟨d.p, gw d q, glued d q⟩ (ea1 (ev_var (R := RTab K a) rfl q1)) (fun G' vs s ⟨z1, e, q2⟩ => ⟨z1, e, q2, worthG ok⟩) fun _ _ _ q => q
    · have wj := worthJ ok (q := q)
      rw [joined_N ok hb] at q1 wj
      refine ev_call ⟨d.p, gw d q, glued d q⟩ (ea1 (ev_call (R := RTab K a) ⟨d.p, sz d q, flat d q⟩ (ea1 (ev_var (R := RTab K a) rfl q1)) (fun G' vs s ⟨z1, e, q2⟩ => ⟨z1, e, q2, fun r hr => (wj.2.1 r hr).1, wj.2.2.1, wj.2.2.2⟩) fun G' v s q2 => ?_)) (fun G' vs s ⟨z1, e, q2⟩ => ⟨z1, e, q2, worthG ok⟩) fun _ _ _ q => q
      dsimp only at q2
      rw [turned_j ok hb] at q2
      exact q2
theorem ev_kept {σ : L2.St} {G L : Hp} {ta tb : TE} {E : XK} {d : PicD} {q : Nat} (h1 : Ev ta σ G L (RPic K a) d) (h2 : Ev tb σ G L RN q) (ok : okPic d) (hq : q < d.web.many) : Ev (tCall (spKeptRows K a) [] E (tCons ta (tCons tb tNil))) σ G L (RT K (RT K RI)) (kept d q) :=
  ev_call (d, q) (ea2 h1 h2) (fun G' vs s ⟨z1, z2, e, q1, q2⟩ => ⟨z1, z2, e, q1, q2, ok, hq⟩) fun _ _ _ q => q
end
end MW

set_option Elab.async false
set_option linter.all false
set_option maxRecDepth 100000
set_option maxHeartbeats 4000000
/-! Walks: raw_turn, turn, lost. -/
namespace MW
open PySem PySem.Spec PyProof.Rows L2
section
variable {P : Program} {w : World} {K : Fg} {mg : Str → Option Value} {base : Heap} {a : Adr}

/-! raw_turn -/
-- 0 picture 1 place 2 kept 3 tables 4 begin 5 index 6 other 7 size 8 cut 9 sizes 10 row; cells begin size
abbrev sRawTurn : Stmt := top 50
abbrev nRawTurn : List Str := ["picture", "place", "kept", "tables", "begin", "index", "other", "size", "cut", "sizes", "row"]
abbrev pRawTurn : List Str := ["picture", "place"]
theorem scRawTurn : FnScope nRawTurn pRawTurn (defScope sRawTurn) := ⟨rfl, rfl, rfl, by decide +kernel, rfl, by decide +kernel, by decide +kernel⟩
def spRawTurn (K : Fg) (a : Adr) : Sp := SpP (prePP K a) (fun i G v => RPicR K a G v (turnP i.1 i.2))
theorem ok_RawTurn (T : Txt K mg a) (h : Has K mg "raw_turn" sRawTurn pRawTurn) (G_kept_rows : Fd P w K mg base CX0 "kept_rows" pKeptRows 7 (spKeptRows K a)) (G_is_end : Fd P w K mg base CX0 "is_end" pIsEnd 4 (spIsEnd K a)) (G_near_places : Fd P w K mg base CX0 "near_places" pNearPlaces 5 (spNearPlaces K a))
    (G_columns_table : Fd P w K mg base CX0 "columns_table" pColumnsTable 4 (spColumnsTable K a)) (G_RawTable : Md P w K mg base CX0 a.RTb "__init__" pRawTableInit 2 (SpI a.RTb (preTab K) (fsTab K))) (G_RawPicture : Md P w K mg base CX0 a.RPc "__init__" pRawPictureInit 2 (SpI a.RPc (prePicR K a) (fsPicR K a)))
    (G_raw_turned_web : Fd P w K mg base CX0 "raw_turned_web" pRawTurnedWeb 3 (spRawTurnedWeb K a)) : Fd P w K mg base CX0 "raw_turn" pRawTurn 8 (spRawTurn K a) := by
  refine h.ok scRawTurn (fun vs H Q E h => ?_) (fun f cdv A outer s H vs Q E hr h => ?_)
  · obtain ⟨i, G, F, _, ⟨v1, v2, rfl, _⟩, _⟩ := h
    rfl
  · obtain ⟨⟨d, q⟩, G, F, hA, ⟨v1, v2, rfl, r1, r2, ok, hq⟩, k⟩ := h
    dsimp only at r1 r2 ok hq
    cases r2
    have nd := scRawTurn.nd
    refine ⟨_, (pss_cons (ps_set (i := 2) nd rfl (Or.inl rfl) (pe_fd G_kept_rows (hr.mono (by decide)) (by rfl) (pa_cons (pv 0) (pa_cons (pv 1) pa_nil))))
      (pss_cons (ps_set (i := 3) nd rfl (Or.inl rfl) (pe_callTy (k_list (K := K) rfl) (by rfl) T.blist (by decide +kernel) (pa_cons (k_fld (K := K) rfl (pv 0) rfl) pa_nil)))
      (pss_cons (ps_set (i := 4) nd rfl (Or.inr rfl) pe_int)
      (pss_cons (ps_for PassesOwn.never rfl (k_seq (K := K) rfl (pe_fd G_near_places (hr.mono (by decide)) (by rfl) (pa_cons (k_fld (K := K) rfl (pv 0) rfl) (pa_cons (pv 1) pa_nil)))) (k_tup (K := K) rfl rfl (pgs_cons (pg_name (i := 5) nd rfl (by first | exact Or.inl rfl | exact Or.inr rfl)) (pgs_cons (pg_name (i := 6) nd rfl (by first | exact Or.inl rfl | exact Or.inr rfl)) pgs_nil)))
        (pss_cons (ps_set (i := 7) nd rfl (Or.inr rfl) (pe_ix (k_ix (K := K) rfl) (k_fld (K := K) rfl (pv 0) rfl) (pv 6) (fun _ _ => rfl)))
        (pss_cons (ps_set (i := 8) nd rfl (Or.inl rfl) (pe_callTy (k_tuple (K := K) rfl) (by rfl) T.btuple (by decide +kernel) (pa_cons (pe_lc (own := [("row", 10)]) (g := (gName 10)) (tt := tYes) rfl nd (k_seq (K := K) rfl (pv 2)) (blkOk_by (N := nRawTurn) (sc := defScope sRawTurn) (by decide +kernel)) (fun _ _ _ _ _ => (pg_name (i := 10) nd rfl (by first | exact Or.inl rfl | exact Or.inr rfl))) (fun _ _ _ _ _ => pts_nil) (fun _ _ _ _ _ => (pe_slice (k_sl (K := K) rfl) (pv 10) (po_some (pv 4)) (po_some (pe_op op_add (pv 4) (pv 7)))))) pa_nil)))
        (pss_cons (ps_if (pt_val (pe_fd G_is_end (hr.mono (by decide)) (by rfl) (pa_cons (k_fld (K := K) rfl (pv 0) rfl) (pa_cons (pv 1) pa_nil))))
          (pss_one (ps_asg (pe_fd G_columns_table (hr.mono (by decide)) (by rfl) (pa_cons (k_fld (K := K) rfl (pv 0) rfl) (pa_cons (pv 7) (pa_cons (pv 8) pa_nil)))) (pg_sub (pv 3) (pv 5) set_list)))
          (pss_one (ps_asg (pe_mk T.cRTb G_RawTable (hr.mono (by decide)) (by rfl) (pa_cons (k_fld (K := K) rfl (pv 0) rfl) (pa_cons (pv 7) (pa_cons (pv 8) pa_nil)))) (pg_sub (pv 3) (pv 5) set_list))))
        (pss_one (ps_aug (i := 4) nd rfl (Or.inr rfl) (pv 7) ip_add))))))
      (pss_cons (ps_set (i := 9) nd rfl (Or.inl rfl) (pe_op (k_catA (K := K) rfl) (pe_op (k_catA (K := K) rfl) (pe_slice (k_sl (K := K) rfl) (k_fld (K := K) rfl (pv 0) rfl) po_none (po_some (pv 1))) (pe_tup (pa_cons (pe_callB (k_len (K := K) rfl) (by rfl) T.blen PySem.boot_len (pa_cons (pv 2) pa_nil)) pa_nil))) (pe_slice (k_sl (K := K) rfl) (k_fld (K := K) rfl (pv 0) rfl) (po_some (pe_op op_add (pv 1) pe_int)) po_none)))
      (pss_one (ps_ret (pe_mk T.cRPc G_RawPicture (hr.mono (by decide)) (by rfl) (pa_cons (pe_fd G_raw_turned_web (hr.mono (by decide)) (by rfl) (pa_cons (k_fld (K := K) rfl (pv 0) rfl) (pa_cons (pv 1) pa_nil))) (pa_cons (k_fld (K := K) rfl (pv 0) rfl) (pa_cons (pv 9) (pa_cons (pe_callTy (k_tuple (K := K) rfl) (by rfl) T.btuple (by decide +kernel) (pa_cons (pv 3) pa_nil)) pa_nil)))))))))))), ?_⟩
    have ha := ok.web.a
    have hm := ok.web.m2
    have hn := @nums_len d.web q
    have hsl := ok.sl
    have htl := ok.tl
    have hgw := gw_le ok q
    have hkl := kept_le ok (q := q)
    refine s_asg (L := no) hA no_sub (R := RT K (RT K RI)) (x := kept d q) (ev_kept (ev_var rfl r1) (ev_var rfl rfl) ok hq) fun v3 G1 H1 s1 A1 r3 => ?_
    refine s_asgF (L := no) A1 no_sub (R := RTab K a) (xs := d.tabs) (ef_lstT (ev_pTabs T (ev_var rfl (mn s1 r1)))) fun l vs G2 H2 s2 n1 n2 A2 r4 => ?_
    refine nq ?_
    refine s_asg (L := no) A2 no_sub (R := RI) (x := 0) ev_i fun v5 G3 H3 s3 A3 r5 => ?_
    cases r5
    have S3 := s1.trans (s2.trans s3)
    refine nq ?_
    refine s_for (L := no) (n := (nears d.web q).length) A3 no_sub (ei_seqL (ev_near (ev_pWeb T (ev_var rfl (mn S3 r1))) (ev_var rfl rfl) ok.web hq))
      (fun i σ G' F' => Same G3 G' ∧ ∃ vs u5 u6 u7 u8, σ = [some v1, some (.int (q : Int)), some v3, some (.ref l), some (.int ((foldT d q i).2 : Int)), u5, u6, u7, u8, none, none] ∧ F' = upd F l (.lst vs) ∧ Paired (RTab K a G') vs (foldT d q i).1)
      (fun G' s => ⟨s, vs, none, none, none, none, rfl, rfl, pairedS (s3.trans s) r4⟩) (fun _ _ _ _ _ => no_sub) ?_ ?_
    · rintro G0 s0 i v σ' G' F' H' hi ⟨s4, vs, u5, u6, u7, u8, rfl, rfl, p⟩ G'' s5 s6 A4 ⟨⟨n, o⟩, ex, b, w1, w2, e1, e2, e3, e4⟩
      refine ⟨b, [w1, w2], e1, sqtS A4.g e2, rfl, w1, [w2], rfl, w2, [], rfl, rfl, ?_⟩
      dsimp only at e3 e4
      cases e3
      cases e4
      obtain ⟨hnn, ho⟩ := nears_get ex
      dsimp only at hnn ho
      have hnl := nums_lt hnn
      have hb := ok.web.b (ar d.web n) (List.mem_of_getElem? (getD_some hnl (0, 0)))
      have hol : o < d.web.many := by rw [ho]; unfold oth; split; exact hb.1; exact hb.2
      have hoff := off_le ex
      have hso := sz_le ok o
      dsimp only at hoff
      generalize eb : (foldT d q i).2 = off at hoff
      have hst : foldT d q (i + 1) = ((foldT d q i).1.set n (newTab d q off (sz d o)), off + sz d o) := by rw [foldT_succ ex, ← eb]; rfl
      have S5 := S3.trans (s4.trans s5)
      refine s_asg (L := no) A4 no_sub (R := RN) (x := sz d o) (ev_ixT (n := o) (ev_pSizes T (ev_var rfl (mn S5 r1))) (ev_var (R := RN) rfl rfl).ni rfl (getD_some (by omega) 0)) fun v7 G5 H5 s7 A5 r7 => ?_
      cases r7
      have kS : Same G1 G5 := (s2.trans s3).trans ((s4.trans s5).trans s7)
      refine s_asg (L := no) A5 no_sub (R := RT K (RT K RI)) (x := (kept d q).map fun r => cutN r (some off) (some (off + sz d o))) (ev_tupL (EvF.ev (ef_lcX (ei_seqT (ev_var rfl (mn kS r3))) (fun r => cutN r (some off) (some (off + sz d o))) (by omega) fun r u G6 hr' s8 q8 => ev_slT (ev_var rfl q8) (eo_some (ev_var (R := RN) rfl rfl)) (eo_some ((ev_add (ev_var (R := RN) (x := off) rfl rfl).ni (ev_var (R := RN) (x := sz d o) rfl rfl).ni).inn (by omega)))))) fun v8 G6 H6 s8 A6 r8 => ?_
      have S6 := S5.trans (s7.trans s8)
      have p6 := pairedS (s5.trans (s7.trans s8)) p
      have hlen : vs.length = d.tabs.length := by rw [Paired.len p, foldT_len]
      have hcl : ∀ r ∈ (kept d q).map fun r => cutN r (some off) (some (off + sz d o)), r.length = sz d o := fun r hr => by
        obtain ⟨r', hr', e⟩ := List.mem_map.mp hr
        subst e
        exact cut_len (by rw [(kept_wr ok r' hr').1]; exact hoff)
      refine s_if (L := no) A6 no_sub (b := isE d.web q) (et_test ((ev_isEnd (ev_pWeb T (ev_var rfl (mn S6 r1))) (Ev.ro (ev_var (R := RN) (x := q) rfl rfl).ni) (by omega)).is (isEO_nat hq))) (fun hb' G7 H7 s9 A7 => ?_) fun hb' G7 H7 s9 A7 => ?_
      · refine s_seti (L := no) A7 no_sub (k := 3) rfl (l := l) (vs := vs) upd_same (R := RTab K a) (x := newTab d q off (sz d o)) (ev_call (d.p, sz d o, (kept d q).map fun r => cutN r (some off) (some (off + sz d o))) (ea3 (R := RI) (S := RN) (U := RT K (RT K RI)) (ev_pPrime T (ev_var rfl (mn (S6.trans s9) r1))) (ev_var rfl rfl) (ev_var rfl (mn s9 r8))) (fun G' vs s ⟨z1, z2, z3, e, q1, q2, q3⟩ => ⟨z1, z2, z3, e, q1, q2, q3, hcl, by dsimp only; omega, by dsimp only; rw [List.length_map]; omega⟩) fun G' v s qq => ?_) (ev_var (R := RN) rfl rfl).ni (j := n) rfl (by omega) fun v9 G8 H8 s10 A8 r9 => ?_
        · dsimp only at qq
          rw [List.length_map] at qq
          unfold newTab newRows
          rw [hb', if_pos rfl, if_pos rfl]
          exact qq
        · rw [upd_upd] at A8
          refine s_aug (L := no) A8 no_sub rfl (ev_var (R := RN) (x := sz d o) rfl rfl).ni fun G9 H9 s11 A9 => ?_
          have S9 := (s7.trans s8).trans ((s9.trans s10).trans s11)
          refine ⟨G9, _, s6.trans S9, A9, (s4.trans s5).trans S9, vs.set n v9, some (.int (n : Int)), some (.int (o : Int)), some (.int (sz d o : Int)), some v8, ?_, rfl, ?_⟩
          · rw [hst]
            rfl
          · rw [hst]
            exact pset (mn s11 r9) n (pairedS ((s9.trans s10).trans s11) p6)
      · refine s_seti (L := no) A7 no_sub (k := 3) rfl (l := l) (vs := vs) upd_same (R := RTab K a) (x := newTab d q off (sz d o)) (Ev.is (ev_raw ⟨d.p, sz d o, (kept d q).map fun r => cutN r (some off) (some (off + sz d o))⟩ (ev_pPrime T (ev_var rfl (mn (S6.trans s9) r1))) (ev_var rfl rfl) (ev_var rfl (mn s9 r8))) ?_) (ev_var (R := RN) rfl rfl).ni (j := n) rfl (by omega) fun v9 G8 H8 s10 A8 r9 => ?_
        · unfold newTab newRows
          rw [hb', if_neg (by decide), if_neg (by decide)]
        · rw [upd_upd] at A8
          refine s_aug (L := no) A8 no_sub rfl (ev_var (R := RN) (x := sz d o) rfl rfl).ni fun G9 H9 s11 A9 => ?_
          have S9 := (s7.trans s8).trans ((s9.trans s10).trans s11)
          refine ⟨G9, _, s6.trans S9, A9, (s4.trans s5).trans S9, vs.set n v9, some (.int (n : Int)), some (.int (o : Int)), some (.int (sz d o : Int)), some v8, ?_, rfl, ?_⟩
          · rw [hst]
            rfl
          · rw [hst]
            exact pset (mn s11 r9) n (pairedS ((s9.trans s10).trans s11) p6)
    · rintro σ' G' F' H' s4 A4 ⟨s5, vs, u5, u6, u7, u8, rfl, rfl, p⟩
      have S4 := S3.trans s5
      have hc1 := cut_le d.sizes none (some q)
      have hc2 := cut_le d.sizes (some (q + 1)) none
      refine s_asg (L := upd F l (.lst vs)) A4 (Same.refl _) (R := RT K RN) (x := cutN d.sizes none (some q) ++ [(kept d q).length] ++ cutN d.sizes (some (q + 1)) none) (ev_catA (ev_catA (ev_slT (ev_pSizes T (ev_var rfl (mn S4 r1))) eo_none (eo_some (ev_var (R := RN) rfl rfl))) (ev_tup (ea_consR ((ev_lenT (ev_var rfl (mn ((s2.trans s3).trans s5) r3))).inn rfl) ea_nilR) (by simp)) (by simp; omega)) (ev_slT (ev_pSizes T (ev_var rfl (mn S4 r1))) (eo_some ((ev_add (ev_var (R := RN) (x := q) rfl rfl).ni ev_i).inn (by omega))) eo_none) (by simp; omega)) fun v9 G5 H5 s6 A5 r9 => ?_
      have S5 := S4.trans s6
      refine s_ret (L := upd F l (.lst vs)) A5 (Same.refl _) (R := RPicR K a) (x := turnP d q) (ev_rawPic (turnP d q) (ev_call (d.web, q) (ea2 (R := RWeb K a) (S := RN) (ev_pWeb T (ev_var rfl (mn S5 r1))) (ev_var rfl rfl)) (fun G' vs s ⟨z1, z2, e, q1, q2⟩ => ⟨z1, z2, e, q1, q2, by dsimp only; omega⟩) fun _ _ _ q => q) (ev_pPrime T (d := d) (ev_var rfl (mn S5 r1))) (ev_var rfl r9) (ev_tupM (k := 3) rfl upd_same (pairedS s6 p))) fun v G6 H6 s7 A6 q6 => ?_
      exact k v G6 H6 ((S3.trans s4).trans (s6.trans s7)) (A6.gone n1) q6
end
end MW

set_option Elab.async false
set_option linter.all false
set_option maxRecDepth 100000
set_option maxHeartbeats 4000000
/-! Walks: what raises NoTurn. -/
namespace MW
open PySem PySem.Spec PyProof.Rows L2
section
variable {P : Program} {w : World} {K : Fg} {mg : Str → Option Value} {base : Heap} {a : Adr}

/-! check_turn -/
-- 0 web 1 place; cells 
abbrev sCheckTurn : Stmt := top 46
abbrev nCheckTurn : List Str := ["web", "place"]
abbrev pCheckTurn : List Str := ["web", "place"]
theorem scCheckTurn : FnScope nCheckTurn pCheckTurn (defScope sCheckTurn) := ⟨rfl, rfl, rfl, by decide +kernel, rfl, by decide +kernel, by decide +kernel⟩
def spCheckTurn (K : Fg) (a : Adr) : Sp := SpX a.NT (preWX K a) (fun i => okT i.1 i.2) (fun _ _ _ => True)
theorem ok_CheckTurn (T : Txt K mg a) (h : Has K mg "check_turn" sCheckTurn pCheckTurn) (G_is_end : Fd P w K mg base CX0 "is_end" pIsEnd 4 (spIsEnd K a)) (G_is_begin : Fd P w K mg base CX0 "is_begin" pIsBegin 5 (spIsBegin K a)) : Fd P w K mg base (L2.CX P w) "check_turn" pCheckTurn 6 (spCheckTurn K a) := by
  refine h.okX scCheckTurn (fun vs H Q E h => ?_) (fun f cdv A outer s H vs Q E hr h => ?_)
  · obtain ⟨i, G, F, _, ⟨v1, v2, rfl, _⟩, _⟩ := h
    rfl
  · obtain ⟨⟨d, x⟩, G, F, hA, ⟨v1, v2, rfl, r1, r2, ok⟩, k1, k2⟩ := h
    dsimp only at r1 r2 ok k1 k2
    have nd := scCheckTurn.nd
    refine ⟨_, (pss_one (ps_if (PW.pt (pw_and (pt_not (pt_val (pe_fd G_is_end (hr.mono (by decide)) (by rfl) (pa_cons (pv 0) (pa_cons (pv 1) pa_nil))))) (pw_and1 (pt_not (pt_val (pe_fd G_is_begin (hr.mono (by decide)) (by rfl) (pa_cons (pv 0) (pa_cons (pv 1) pa_nil))))))))
        (pss_one (ps_raise rfl (takes_of rfl rfl rfl rfl) (pmk_own0 PySem.F.excBase_ValueError T.xNT T.cNT T.kNT (raises_own T.bNT T.tNT) (by rfl))))
        pss_nil)), ?_⟩
    have ha := ok.a
    refine s_if (L := no) hA no_sub (b := !isEO d x && !isBO d x) (et_and (a := !isEO d x) (b := !isBO d x) (et_not (et_B (ev_isEnd (ev_var rfl r1) (ev_var rfl r2) (by omega)))) fun _ => et_not (et_B (ev_isBegin (ev_var rfl r1) (ev_var rfl r2) (by omega)))) (fun hb G1 H1 s1 A1 => ?_) fun hb G1 H1 s1 A1 => ?_
    · refine k2 ?_ G1 H1 s1 A1
      unfold okT
      cases e1 : isEO d x <;> cases e2 : isBO d x <;> rw [e1, e2] at hb <;> first | rfl | cases hb
    · refine k1 ?_ .non G1 H1 s1 A1 trivial
      unfold okT
      cases e1 : isEO d x <;> cases e2 : isBO d x <;> rw [e1, e2] at hb <;> first | rfl | cases hb

/-! turned_web -/
-- 0 web 1 place; cells 
abbrev sTurnedWeb : Stmt := top 38
abbrev nTurnedWeb : List Str := ["web", "place"]
abbrev pTurnedWeb : List Str := ["web", "place"]
theorem scTurnedWeb : FnScope nTurnedWeb pTurnedWeb (defScope sTurnedWeb) := ⟨rfl, rfl, rfl, by decide +kernel, rfl, by decide +kernel, by decide +kernel⟩
def spTurnedWeb (K : Fg) (a : Adr) : Sp := SpX a.NT (preWX K a) (fun i => okT i.1 i.2) (fun i G v => RRaw K a G v (turnW i.1 (xn i.2)))
theorem ok_TurnedWeb (T : Txt K mg a) (h : Has K mg "turned_web" sTurnedWeb pTurnedWeb) (G_is_end : Fd P w K mg base CX0 "is_end" pIsEnd 4 (spIsEnd K a)) (G_is_begin : Fd P w K mg base CX0 "is_begin" pIsBegin 5 (spIsBegin K a)) (G_raw_turned_web : Fd P w K mg base CX0 "raw_turned_web" pRawTurnedWeb 3 (spRawTurnedWeb K a)) : Fd P w K mg base (L2.CX P w) "turned_web" pTurnedWeb 6 (spTurnedWeb K a) := by
  refine h.okX scTurnedWeb (fun vs H Q E h => ?_) (fun f cdv A outer s H vs Q E hr h => ?_)
  · obtain ⟨i, G, F, _, ⟨v1, v2, rfl, _⟩, _⟩ := h
    rfl
  · obtain ⟨⟨d, x⟩, G, F, hA, ⟨v1, v2, rfl, r1, r2, ok⟩, k1, k2⟩ := h
    dsimp only at r1 r2 ok k1 k2
    have nd := scTurnedWeb.nd
    refine ⟨_, (pss_cons (ps_if (PW.pt (pw_and (pt_not (pt_val (pe_fd G_is_end (hr.mono (by decide)) (by rfl) (pa_cons (pv 0) (pa_cons (pv 1) pa_nil))))) (pw_and1 (pt_not (pt_val (pe_fd G_is_begin (hr.mono (by decide)) (by rfl) (pa_cons (pv 0) (pa_cons (pv 1) pa_nil))))))))
        (pss_one (ps_raise rfl (takes_of rfl rfl rfl rfl) (pmk_own0 PySem.F.excBase_ValueError T.xNT T.cNT T.kNT (raises_own T.bNT T.tNT) (by rfl))))
        pss_nil)
      (pss_one (ps_ret (pe_fd G_raw_turned_web (hr.mono (by decide)) (by rfl) (pa_cons (pv 0) (pa_cons (pv 1) pa_nil)))))), ?_⟩
    have ha := ok.a
    refine s_if (L := no) hA no_sub (b := !isEO d x && !isBO d x) (et_and (a := !isEO d x) (b := !isBO d x) (et_not (et_B (ev_isEnd (ev_var rfl r1) (ev_var rfl r2) (by omega)))) fun _ => et_not (et_B (ev_isBegin (ev_var rfl r1) (ev_var rfl r2) (by omega)))) (fun hb G1 H1 s1 A1 => ?_) fun hb G1 H1 s1 A1 => ?_
    · refine k2 ?_ G1 H1 s1 A1
      unfold okT
      cases e1 : isEO d x <;> cases e2 : isBO d x <;> rw [e1, e2] at hb <;> first | rfl | cases hb
    · have hok : okT d x = true := by
        unfold okT
        cases e1 : isEO d x <;> cases e2 : isBO d x <;> rw [e1, e2] at hb <;> first | rfl | cases hb
      have hx := okT_lt hok
      have r2' : RN G v2 (xn x) := by
        rw [hx.1] at r2
        exact r2
      refine nt ?_
      exact s_ret (L := no) A1 no_sub (R := RRaw K a) (x := turnW d (xn x)) (ev_call (d, xn x) (ea2 (R := RWeb K a) (S := RN) (ev_var rfl (mn s1 r1)) (ev_var rfl (mn s1 r2'))) (fun G' vs s ⟨z1, z2, e, q1, q2⟩ => ⟨z1, z2, e, q1, q2, by dsimp only; omega⟩) fun _ _ _ q => q) fun v G' H' s A q => k1 hok v G' H' (s1.trans s) A q

/-! turn -/
-- 0 picture 1 place; cells 
abbrev sTurn : Stmt := top 51
abbrev nTurn : List Str := ["picture", "place"]
abbrev pTurn : List Str := ["picture", "place"]
theorem scTurn : FnScope nTurn pTurn (defScope sTurn) := ⟨rfl, rfl, rfl, by decide +kernel, rfl, by decide +kernel, by decide +kernel⟩
def spTurn (K : Fg) (a : Adr) : Sp := SpX a.NT (prePX K a) (fun i => okT i.1.web i.2) (fun i G v => RPicR K a G v (turnP i.1 (xn i.2)))
theorem ok_Turn (T : Txt K mg a) (h : Has K mg "turn" sTurn pTurn) (G_check_turn : Fd P w K mg base (L2.CX P w) "check_turn" pCheckTurn 6 (spCheckTurn K a)) (G_raw_turn : Fd P w K mg base CX0 "raw_turn" pRawTurn 8 (spRawTurn K a)) : Fd P w K mg base (L2.CX P w) "turn" pTurn 9 (spTurn K a) := by
  refine h.okX scTurn (fun vs H Q E h => ?_) (fun f cdv A outer s H vs Q E hr h => ?_)
  · obtain ⟨i, G, F, _, ⟨v1, v2, rfl, _⟩, _⟩ := h
    rfl
  · obtain ⟨⟨d, x⟩, G, F, hA, ⟨v1, v2, rfl, r1, r2, ok⟩, k1, k2⟩ := h
    dsimp only at r1 r2 ok k1 k2
    have nd := scTurn.nd
    refine ⟨_, (pss_cons (ps_expr (pe_fdX G_check_turn (hr.mono (by decide)) (passes_call (takes_of rfl rfl rfl rfl) (fun _ _ _ _ h => h)) (by rfl) (pa_cons (k_fld (K := K) rfl (pv 0) rfl) (pa_cons (pv 1) pa_nil))))
      (pss_one (ps_ret (pe_fd G_raw_turn (hr.mono (by decide)) (by rfl) (pa_cons (pv 0) (pa_cons (pv 1) pa_nil)))))), ?_⟩
    refine s_check (L := no) hA no_sub (d.web, x) (ea2 (R := RWeb K a) (S := RO K) (ev_pWeb T (ev_var rfl r1)) (ev_var rfl r2)) (fun G' vs s ⟨z1, z2, e, q1, q2⟩ => ⟨z1, z2, e, q1, q2, ok.web⟩) (fun hok G1 H1 s1 A1 => ?_) fun hno G1 H1 s1 A1 => k2 hno G1 H1 s1 A1
    have hx := okT_lt (d := d.web) (x := x) hok
    have r2' : RN G v2 (xn x) := by
      have := hx.1
      rw [this] at r2
      exact r2
    exact s_ret (L := no) A1 no_sub (R := RPicR K a) (x := turnP d (xn x)) (ev_call (d, xn x) (ea2 (R := RPic K a) (S := RN) (ev_var rfl (mn s1 r1)) (ev_var rfl (mn s1 r2'))) (fun G' vs s ⟨z1, z2, e, q1, q2⟩ => ⟨z1, z2, e, q1, q2, ok, hx.2⟩) fun _ _ _ q => q) fun v G' H' s A q => k1 hok v G' H' (s1.trans s) A q

/-! lost -/
-- 0 picture 1 place; cells 
abbrev sLost : Stmt := top 52
abbrev nLost : List Str := ["picture", "place"]
abbrev pLost : List Str := ["picture", "place"]
theorem scLost : FnScope nLost pLost (defScope sLost) := ⟨rfl, rfl, rfl, by decide +kernel, rfl, by decide +kernel, by decide +kernel⟩
def lostN (d : PicD) (q : Nat) : Int := (sz d q : Int) - ((red d.p (gw d q) (glued d q)).length : Int)
def spLost (K : Fg) (a : Adr) : Sp := SpX a.NT (prePX K a) (fun i => okT i.1.web i.2) (fun i G v => RI G v (lostN i.1 (xn i.2)))
theorem ok_Lost (T : Txt K mg a) (h : Has K mg "lost" sLost pLost) (G_check_turn : Fd P w K mg base (L2.CX P w) "check_turn" pCheckTurn 6 (spCheckTurn K a)) (G_rank : Fd P w K mg base CX0 "rank" pRank 4 (spRank K a)) (G_joined_table : Fd P w K mg base CX0 "joined_table" pJoinedTable 6 (spJoinedTable K a)) : Fd P w K mg base (L2.CX P w) "lost" pLost 7 (spLost K a) := by
  refine h.okX scLost (fun vs H Q E h => ?_) (fun f cdv A outer s H vs Q E hr h => ?_)
  · obtain ⟨i, G, F, _, ⟨v1, v2, rfl, _⟩, _⟩ := h
    rfl
  · obtain ⟨⟨d, x⟩, G, F, hA, ⟨v1, v2, rfl, r1, r2, ok⟩, k1, k2⟩ := h
    dsimp only at r1 r2 ok k1 k2
    have nd := scLost.nd
    refine ⟨_, (pss_cons (ps_expr (pe_fdX G_check_turn (hr.mono (by decide)) (passes_call (takes_of rfl rfl rfl rfl) (fun _ _ _ _ h => h)) (by rfl) (pa_cons (k_fld (K := K) rfl (pv 0) rfl) (pa_cons (pv 1) pa_nil))))
      (pss_one (ps_ret (pe_op op_sub (pe_ix (k_ix (K := K) rfl) (k_fld (K := K) rfl (pv 0) rfl) (pv 1) (fun _ _ => rfl)) (pe_fd G_rank (hr.mono (by decide)) (by rfl) (pa_cons (pe_fd G_joined_table (hr.mono (by decide)) (by rfl) (pa_cons (pv 0) (pa_cons (pv 1) pa_nil))) pa_nil)))))), ?_⟩
    refine s_check (L := no) hA no_sub (d.web, x) (ea2 (R := RWeb K a) (S := RO K) (ev_pWeb T (ev_var rfl r1)) (ev_var rfl r2)) (fun G' vs s ⟨z1, z2, e, q1, q2⟩ => ⟨z1, z2, e, q1, q2, ok.web⟩) (fun hok G1 H1 s1 A1 => ?_) fun hno G1 H1 s1 A1 => k2 hno G1 H1 s1 A1
    have hx := okT_lt (d := d.web) (x := x) hok
    have r2' : RN G v2 (xn x) := by
      have := hx.1
      rw [this] at r2
      exact r2
    have hsl := ok.sl
    refine s_ret (L := no) A1 no_sub (R := RI) (x := lostN d (xn x)) (ev_sub (ev_ixT (n := xn x) (ev_pSizes T (ev_var rfl (mn s1 r1))) (ev_var (R := RN) rfl (mn s1 r2')).ni rfl (getD_some (by omega) 0)).ni (Ev.ni ((ev_call (R := RN) (joined d (xn x)) (ea1 (ev_joined (ev_var rfl (mn s1 r1)) (ev_var rfl (mn s1 r2')) ok hx.2)) (fun G' vs s ⟨z1, e, q1⟩ => ⟨z1, e, q1, worthJ ok⟩) fun _ _ _ q => q).is ?_))) fun v G' H' s A q => k1 hok v G' H' (s1.trans s) A q
    have hp : (joined d (xn x)).p = d.p := by unfold joined; split <;> rfl
    rw [hp]
    exact rank_j ok
end
end MW

set_option Elab.async false
set_option linter.all false
set_option maxRecDepth 100000
set_option maxHeartbeats 4000000
/-! Evaluations that draw from the purse: a list at b whose items are not known. -/
namespace MW
open PySem PySem.Spec PyProof.Rows L2
/-- what a purse holds -/
def PuOk (K : Fg) (G : Hp) (ps : List V) : Prop := ∃ (c : Addr) (cs : List Int) (i : Nat) (j k m : Int), ps = [.ref c, .int i, .int j, .int k, .int m] ∧ RL K RI G (.ref c) cs
theorem PuOk.mn {K : Fg} {G G' : Hp} {ps : List V} (s : Same G G') (h : PuOk K G ps) : PuOk K G' ps := let ⟨c, cs, i, j, k, m, e, r⟩ := h; ⟨c, cs, i, j, k, m, e, MW.mn s r⟩
/-- a purse's part of the heap -/
abbrev pu (F : Hp) (b : Addr) (ps : List V) : Hp := upd F b (.lst ps)
theorem pu_ne {F : Hp} {b D : Addr} {ps : List V} (h : D ≠ b) : pu F b ps D = F D := upd_ne h
def EvP (K : Fg) (te : TE) (σ : L2.St) (G L : Hp) (b : Addr) (P : Hp → V → Prop) : Prop :=
  ∀ G1 F H ps, Same G G1 → Same L F → F b = none → PuOk K G1 ps → At G1 (pu F b ps) H → ∀ Q : VK, (∀ v G2 ps2 H2, Same G1 G2 → PuOk K G2 ps2 → At G2 (pu F b ps2) H2 → P G2 v → Q v H2) → te σ H Q
def EvTP (K : Fg) (tt : TT) (σ : L2.St) (G L : Hp) (b : Addr) : Prop :=
  ∀ G1 F H ps, Same G G1 → Same L F → F b = none → PuOk K G1 ps → At G1 (pu F b ps) H → ∀ Q : Bool → Hp → Prop, (∀ r G2 ps2 H2, Same G1 G2 → PuOk K G2 ps2 → At G2 (pu F b ps2) H2 → Q r H2) → tt σ H Q
def EvAP (K : Fg) (ta : TA) (σ : L2.St) (G L : Hp) (b : Addr) (P : Hp → List V → Prop) : Prop :=
  ∀ G1 F H ps, Same G G1 → Same L F → F b = none → PuOk K G1 ps → At G1 (pu F b ps) H → ∀ Q : List V → Hp → Prop, (∀ vs G2 ps2 H2, Same G1 G2 → PuOk K G2 ps2 → At G2 (pu F b ps2) H2 → P G2 vs → Q vs H2) → ta σ H Q
/-- .. a new list, that may still be changed -/
def EvFP (K : Fg) (te : TE) (σ : L2.St) (G L : Hp) (b : Addr) (P : Hp → List V → Prop) : Prop :=
  ∀ G1 F H ps, Same G G1 → Same L F → F b = none → PuOk K G1 ps → At G1 (pu F b ps) H → ∀ Q : VK, (∀ D vs G2 ps2 H2, Same G1 G2 → F D = none → D ≠ b → G2 D = none → PuOk K G2 ps2 → At G2 (pu (upd F D (.lst vs)) b ps2) H2 → P G2 vs → Q (.ref D) H2) → te σ H Q
/-- arguments that stand -/
def cA (vs : List V) : TA := fun _ H Q => Q vs H
section
variable {α β : Type} {K : Fg} {σ : L2.St} {G L : Hp} {b : Addr} {te ta tb : TE} {tr : TA} {P : Hp → V → Prop} {R : Rel α} {x : α}
theorem puL {F : Hp} {ps : List V} (h : Same L F) (n : F b = none) : Same L (pu F b ps) := h.trans (same_new n)
theorem Ev.ep (h : Ev te σ G L R x) : EvP K te σ G L b (fun G' v => R G' v x) := fun G1 F H ps s c n p A Q q =>
  h G1 _ H s (puL c n) A Q fun v G2 H2 s2 A2 r => q v G2 ps H2 s2 (p.mn s2) A2 r
theorem EvA.ep {P : Hp → List V → Prop} (h : EvA tr σ G L P) : EvAP K tr σ G L b P := fun G1 F H ps s c n p A Q q =>
  h G1 _ H s (puL c n) A Q fun v G2 H2 s2 A2 r => q v G2 ps H2 s2 (p.mn s2) A2 r
theorem EvP.imp {P' : Hp → V → Prop} (h : EvP K te σ G L b P) (i : ∀ G' v, P G' v → P' G' v) : EvP K te σ G L b P' := fun G1 F H ps s c n p A Q q =>
  h G1 F H ps s c n p A Q fun v G2 ps2 H2 s2 p2 A2 r => q v G2 ps2 H2 s2 p2 A2 (i _ _ r)
theorem EvAP.imp {P P' : Hp → List V → Prop} (h : EvAP K tr σ G L b P) (i : ∀ G' vs, P G' vs → P' G' vs) : EvAP K tr σ G L b P' := fun G1 F H ps s c n p A Q q =>
  h G1 F H ps s c n p A Q fun v G2 ps2 H2 s2 p2 A2 r => q v G2 ps2 H2 s2 p2 A2 (i _ _ r)
theorem EvP.mono {G0 : Hp} (h : EvP K te σ G0 L b P) (e : Same G0 G) : EvP K te σ G L b P := fun G1 F H ps s => h G1 F H ps (e.trans s)
theorem eap_nil : EvAP K tNil σ G L b (fun _ vs => vs = []) := fun G1 F H ps s c n p A Q q => q [] G1 ps H (Same.refl _) p A rfl
theorem eap_cons {P' : Hp → List V → Prop} (hm : ∀ G' G'' v, Same G' G'' → P G' v → P G'' v) (h : EvP K te σ G L b P) (hr : EvAP K tr σ G L b P') : EvAP K (tCons te tr) σ G L b (fun G' vs => ∃ v r, vs = v :: r ∧ P G' v ∧ P' G' r) := fun G1 F H ps s c n p A Q q =>
  h G1 F H ps s c n p A _ fun v G2 ps2 H2 s2 p2 A2 r2 => hr G2 F H2 ps2 (s.trans s2) c n p2 A2 _ fun vs G3 ps3 H3 s3 p3 A3 r3 => q _ G3 ps3 H3 (s2.trans s3) p3 A3 ⟨v, vs, rfl, hm _ _ _ s3 r2, r3⟩
theorem ea_c {vs : List V} : EvA (cA vs) σ G L (fun _ ws => ws = vs) := fun G1 F H s c A Q q => q vs G1 H (Same.refl _) A rfl
/-- the arguments first -/
theorem ep_args {f : TA → TE} {P' : Hp → List V → Prop} (hf : ∀ σ H Q, (tr σ H fun vs H1 => f (cA vs) σ H1 Q) → f tr σ H Q) (ha : EvAP K tr σ G L b P') (h : ∀ vs G', Same G G' → P' G' vs → EvP K (f (cA vs)) σ G' L b P) : EvP K (f tr) σ G L b P := fun G1 F H ps s c n p A Q q =>
  hf σ H Q (ha G1 F H ps s c n p A _ fun vs G2 ps2 H2 s2 p2 A2 r2 => h vs G2 (s.trans s2) r2 G2 F H2 ps2 (Same.refl _) c n p2 A2 Q fun v G3 ps3 H3 s3 p3 A3 r3 => q v G3 ps3 H3 (s2.trans s3) p3 A3 r3)
/-- one part first -/
theorem ep_first {f : TE → TE} {P' : Hp → V → Prop} (hf : ∀ σ H Q, (te σ H fun v H1 => f (tC v) σ H1 Q) → f te σ H Q) (ha : EvP K te σ G L b P') (h : ∀ v G', Same G G' → P' G' v → EvP K (f (tC v)) σ G' L b P) : EvP K (f te) σ G L b P := fun G1 F H ps s c n p A Q q =>
  hf σ H Q (ha G1 F H ps s c n p A _ fun v G2 ps2 H2 s2 p2 A2 r2 => h v G2 (s.trans s2) r2 G2 F H2 ps2 (Same.refl _) c n p2 A2 Q fun v G3 ps3 H3 s3 p3 A3 r3 => q v G3 ps3 H3 (s2.trans s3) p3 A3 r3)
theorem etp_test (h : EvP K te σ G L b (fun _ v => ∃ r, v = .bl r)) : EvTP K (tTest te) σ G L b := fun G1 F H ps s c n p A Q q =>
  h G1 F H ps s c n p A _ fun v G2 ps2 H2 s2 p2 A2 ⟨r, e⟩ => ⟨r, e, q r G2 ps2 H2 s2 p2 A2⟩
/-- .. kept for good -/
theorem EvFP.ep {P' : List α → Prop} [Mn R] (h : EvFP K te σ G L b (fun G' vs => ∃ xs, Paired (R G') vs xs ∧ P' xs)) : EvP K te σ G L b (fun G' v => ∃ xs, RL K R G' v xs ∧ P' xs) := fun G1 F H ps s c n p A Q q =>
  h G1 F H ps s c n p A Q fun D vs G2 ps2 H2 s2 n1 n2 n3 p2 A2 ⟨xs, pp, hx⟩ => by
    have e : pu (upd F D (.lst vs)) b ps2 = upd (pu F b ps2) D (.lst vs) := upd_comm n2
    rw [e] at A2
    have nD : pu F b ps2 D = none := by rw [pu_ne n2]; exact n1
    have s3 := same_new (o := .lst vs) n3
    exact q _ _ ps2 H2 (s2.trans s3) (p2.mn s3) (A2.freezeN nD) ⟨xs, ⟨D, vs, rfl, .inl (.inl upd_same), pairedS s3 pp⟩, hx⟩
/-- tuple(..) of it -/
theorem ep_tupL {P' : List α → Prop} [Mn R] (h : EvP K te σ G L b (fun G' v => ∃ xs, RL K R G' v xs ∧ P' xs)) : EvP K (tCB (rTupOf K) (tCons te tNil)) σ G L b (fun G' v => ∃ xs, RT K R G' v xs ∧ P' xs) :=
  ep_first (f := fun t => tCB (rTupOf K) (tCons t tNil)) (fun _ _ _ h => h) h fun v G' s ⟨xs, r, hx⟩ => (Ev.ep (ev_tupL (ev_c_at r))).imp fun _ _ r => ⟨xs, r, hx⟩
where
  ev_c_at {G' : Hp} {v : V} {xs : List α} (r : RL K R G' v xs) : Ev (tC v) σ G' L (RL K R) xs := fun G1 F H s _ A Q q => q v G1 H (Same.refl _) A (mn s r)
theorem ev_cR [Mn R] {v : V} (r : R G v x) : Ev (tC v) σ G L R x := fun G1 F H s _ A Q q => q v G1 H (Same.refl _) A (mn s r)
/-- .. in a comprehension -/
theorem ep_lcG [Mn R] {wi : TI} {g : TG} {vs : List Nat} {n : Nat} {Y : Nat → Hp → V → Prop} (hi : EvI wi σ G L n Y) (hn : n ≤ 1000000) (Pt : Nat → Hp → L2.St → Prop) (Px : Nat → α → Prop)
    (hg : ∀ i v G', i < n → Same G G' → Y i G' v → Tgt g σ vs G' L v (Pt i))
    (he : ∀ i τ G', i < n → Same G G' → Pt i G' τ → EvP K te τ G' L b (fun G' v => ∃ x, R G' v x ∧ Px i x)) : EvFP K (tLc wi g tYes te vs) σ G L b (fun G' vs => ∃ xs, Paired (R G') vs xs ∧ xs.length = n ∧ ∀ i x, xs[i]? = some x → Px i x) := by
  intro G1 F H ps s c nb pk A Q q
  refine hi G1 _ H s (puL c nb) A _ fun J G2 H2 s2 A2 ok => ?_
  intro D hD
  have hDb : D ≠ b := fun z => by
    have := A2.f b _ (show pu F b ps b = some (.lst ps) from upd_same)
    rw [← z, hD] at this
    cases this
  have nF : F D = none := by
    have := A2.nF hD
    rwa [pu_ne hDb] at this
  let Pv : Nat → Hp → Prop := fun i H' => ∃ G' acc ps' xs, Same G2 G' ∧ G' D = none ∧ PuOk K G' ps' ∧ At G' (pu (upd F D (.lst acc)) b ps') H' ∧ Paired (R G') acc xs ∧ xs.length = i ∧ ∀ i x, xs[i]? = some x → Px i x
  have cD : ∀ {acc}, Same L (upd F D (.lst acc)) := fun {acc} => c.trans (same_new nF)
  have nbD : ∀ {acc}, upd F D (.lst acc) b = none := fun {acc} => by rw [upd_ne (Ne.symm hDb)]; exact nb
  refine ⟨fun i m H' => m = n - i ∧ i ≤ n ∧ Pv i H', ⟨n, by simp, Nat.zero_le _, G2, [], ps, [], Same.refl _, A2.nG hD, pk.mn s2, ?_, .nil, rfl, fun i x h => by simp at h⟩, ?_⟩
  · have := A2.newF (o := .lst []) hD
    rwa [show upd (pu F b ps) D (.lst []) = pu (upd F D (.lst [])) b ps from upd_comm (Ne.symm hDb)] at this
  rintro i m H' ⟨rfl, hi', G', acc, ps', xs, s3, nG, pk', A3, p, hl, hx⟩
  by_cases hlt : i < n
  · refine .inr ⟨ok.go i H' hlt (s3.trans A3.g) (fun a o e => A3.f a o (puL cD nbD a o e)), Pv (i + 1), fun H'' p' => ⟨n - (i + 1), by omega, rfl, hlt, p'⟩, fun x H3 y => ?_⟩
    obtain ⟨G4, s4, A4, y4⟩ := ok.yld i H' x H3 G' _ hlt s3 (puL cD nbD) A3 y
    refine hg i x G4 hlt (((s.trans s2).trans s3).trans s4) y4 G4 _ H3 (Same.refl _) (puL cD nbD) A4 _ fun τ G5 s5 A5 hw p5 => ⟨hw, ?_⟩
    have sG5 : Same G G5 := (((s.trans s2).trans s3).trans s4).trans s5
    show te τ H3 _
    refine he i τ G5 hlt sG5 p5 G5 _ H3 ps' (Same.refl _) cD nbD (pk'.mn (s4.trans s5)) A5 _ fun v G7 ps7 H7 s7 pk7 A7 ⟨x', r7, px⟩ => ?_
    have hDD : H7 D = some (.lst acc) := A7.f D _ (by rw [pu_ne hDb, upd_same])
    refine ⟨acc, hDD, ?_, G7, acc ++ [v], ps7, xs ++ [x'], (s3.trans s4).trans (s5.trans s7), A7.d D _ (by rw [pu_ne hDb, upd_same]), pk7, ?_, papp (pairedS (s4.trans (s5.trans s7)) p) (pone r7), by simp [hl], fun k z hz => ?_⟩
    · rw [Paired.len p, hl]
      exact Nat.lt_of_le_of_lt (Nat.le_trans (Nat.le_of_lt hlt) hn) (by decide)
    · have A8 := A7.set (l := D) (o := .lst (acc ++ [v])) (by rw [pu_ne hDb, upd_same])
      rwa [show upd (pu (upd F D (.lst acc)) b ps7) D (.lst (acc ++ [v])) = pu (upd F D (.lst (acc ++ [v]))) b ps7 by rw [upd_comm (Ne.symm hDb), upd_upd]] at A8
    · by_cases hk : k < xs.length
      · rw [List.getElem?_append_left hk] at hz
        exact hx k z hz
      · rw [List.getElem?_append_right (by omega)] at hz
        by_cases hk2 : k - xs.length = 0
        · rw [hk2] at hz
          simp at hz
          subst hz
          rwa [show k = i by omega]
        · rw [List.getElem?_eq_none (by simp; omega)] at hz
          cases hz
  · have e : i = n := by omega
    subst e
    exact .inl ⟨ok.stop H' (s3.trans A3.g) (fun a o e => A3.f a o (puL cD nbD a o e)), q D acc G' ps' H' (s2.trans s3) nF hDb nG pk' A3 ⟨xs, p, hl, hx⟩⟩
/-- [e for i in range(n)], e draws -/
theorem ep_lcR [Mn R] {j n : Nat} (hn : Ev ta σ G L RN n) (hb : n ≤ 1000000) (Px : Nat → α → Prop) (he : ∀ i v G', i < n → Same G G' → RN G' v i → EvP K te ((wipe σ [j]).set j (some v)) G' L b (fun G' v => ∃ x, R G' v x ∧ Px i x)) :
    EvFP K (tLc (iRng1 (tCons ta tNil)) (gName j) tYes te [j]) σ G L b (fun G' vs => ∃ xs, Paired (R G') vs xs ∧ xs.length = n ∧ ∀ i x, xs[i]? = some x → Px i x) :=
  ep_lcG (ei_rangeN hn.ni (by omega)) hb (fun i G' τ => ∃ v, τ = (wipe σ [j]).set j (some v) ∧ RN G' v i) Px (fun i v G' _ _ y => tg_name y fun _ _ => y) fun i τ G' hi s ⟨v, e, r⟩ => by subst e; exact he i v G' hi s r
/-- [e for (a, b) in pairs], e draws -/
theorem ep_lcP [Mn R] {γ δ : Type} {S : Rel γ} {U : Rel δ} [Mn S] [Mn U] {wi : TI} {i' j : Nat} {xs : List (γ × δ)} (hi : EvI wi σ G L xs.length (fun i G' v => ∃ x, xs[i]? = some x ∧ RP K S U G' v x)) (hn : xs.length ≤ 1000000) (Px : Nat → α → Prop)
    (he : ∀ i x v1 v2 G', xs[i]? = some x → Same G G' → S G' v1 x.1 → U G' v2 x.2 → EvP K te (((wipe σ [i', j]).set i' (some v1)).set j (some v2)) G' L b (fun G' v => ∃ x, R G' v x ∧ Px i x)) :
    EvFP K (tLc wi (gTup K 2 (gCons (gName i') (gCons (gName j) gNil))) tYes te [i', j]) σ G L b (fun G' vs => ∃ ys, Paired (R G') vs ys ∧ ys.length = xs.length ∧ ∀ i x, ys[i]? = some x → Px i x) :=
  ep_lcG hi hn (fun k G' τ => ∃ w1 w2, τ = ((wipe σ [i', j]).set i' (some w1)).set j (some w2) ∧ ∃ x, xs[k]? = some x ∧ S G' w1 x.1 ∧ U G' w2 x.2) Px (fun k v G' _ _ y => by
      obtain ⟨x, d, a, v1, v2, e, hq, r1, r2⟩ := y
      exact tg_pair (P := fun G' w1 w2 => ∃ x, xs[k]? = some x ∧ S G' w1 x.1 ∧ U G' w2 x.2) e hq fun G'' s => ⟨x, d, mn s r1, mn s r2⟩)
    fun k τ G' hk s ⟨w1, w2, e, x, d, r1, r2⟩ => by subst e; exact he k x w1 w2 G' d s r1 r2
end
/-- the promise of a def that draws from the purse, its first argument -/
def SpQ {ι : Type} (K : Fg) (pre : ι → Hp → List V → Prop) (post : ι → Hp → V → Prop) : Sp := fun vs H Q _ =>
  ∃ (i : ι) (G F : Hp) (b : Addr) (ps ws : List V), vs = .ref b :: ws ∧ F b = none ∧ PuOk K G ps ∧ At G (pu F b ps) H ∧ pre i G ws ∧ ∀ v G' ps' H', Same G G' → PuOk K G' ps' → At G' (pu F b ps') H' → post i G' v → Q v H'
section
variable {ι : Type} {K : Fg} {σ : L2.St} {G L : Hp} {b : Addr} {tr : TA} {P : Hp → List V → Prop}
theorem ep_callQ {pre : ι → Hp → List V → Prop} {post : ι → Hp → V → Prop} {E : XK} {k : Nat} (hk : σ[k]? = some (some (.ref b))) (i : ι) (ha : EvA tr σ G L P) (h1 : ∀ G' vs, Same G G' → P G' vs → pre i G' vs) : EvP K (tCall (SpQ K pre post) [] E (tCons (tVar k) tr)) σ G L b (post i) := fun G1 F H ps s c n p A Q q =>
  ⟨_, hk, ha G1 _ H s (puL c n) A _ fun vs G2 H2 s2 A2 r2 => ⟨i, G2, F, b, ps, vs, by rw [List.append_nil], n, p.mn s2, A2, h1 _ _ (s.trans s2) r2, fun v G' ps' H' s3 p3 A3 r3 => q v G' ps' H' (s2.trans s3) p3 A3 r3⟩⟩
end
end MW

set_option Elab.async false
set_option linter.all false
set_option maxRecDepth 100000
set_option maxHeartbeats 4000000
/-! Walks: the law's purse. -/
namespace MW
open PySem PySem.Spec PyProof.Rows L2
section
variable {α : Type} {K : Fg} {σ : L2.St} {G F H L : Hp} {ta tb te : TE} {tr : TA} {tt : TT} {tu tw : TS} {D : Ends} {R : Rel α} {x : α}
theorem ev_abs {i : Int} (h : Ev ta σ G L RI i) : Ev (tCB (fun xs H Q => ∃ i, xs = [V.int i] ∧ Q (.int (if i < 0 then -i else i)) H) (tCons ta tNil)) σ G L RI (if i < 0 then -i else i) := fun G1 F H s c A Q q =>
  h G1 F H s c A _ fun v G2 H2 s2 A2 e => ⟨i, by rw [show v = V.int i from e], q _ G2 H2 s2 A2 rfl⟩
theorem s_retL {P : Hp → List V → Prop} (A : At G F H) (c : Same L F) (h : EvA tr σ G L P) (hz : ∀ G' vs, Same G G' → P G' vs → vs.length ≤ 1000) (k : ∀ l vs G' H', Same G G' → F l = none → G' l = none → At G' (upd F l (.lst vs)) H' → P G' vs → D.rt (.ref l) H') : tRet (tLst tr) D σ H :=
  h G F H (Same.refl _) c A _ fun vs G2 H2 s2 A2 r2 => ⟨Nat.le_trans (hz _ _ s2 r2) (by decide), fun p hp => k p vs G2 _ s2 (A2.nF hp) (A2.nG hp) (A2.newF hp) r2⟩
theorem ev_pow {i : Int} {n : Nat} (ha : Ev ta σ G L RI i) (hb : Ev tb σ G L RI (n : Int)) (h1 : i.natAbs < 2 ^ 64) (h2 : (n : Int) ≤ 1000000) : Ev (tOp (rI CPow fun i j => .int (i ^ j.toNat)) ta tb) σ G L RI (i ^ n) :=
  ev_opC ha hb ⟨by omega, h2, h1⟩ fun _ => by show V.int _ = V.int _; rw [Int.toNat_natCast]
/-- an item of a list that is still changed -/
theorem ev_pu [Mn R] {k n : Nat} {b : Addr} {ps : List V} {v : V} (hk : σ[k]? = some (some (.ref b))) (hl : L b = some (.lst ps)) (h : ps[n]? = some v) (r : R G v x) : Ev (tOp (rIx K) (tVar k) (tC (.int (n : Int)))) σ G L R x := fun G1 F H a c A Q q =>
  ⟨_, hk, .inl ⟨b, ps, (n : Int), v, rfl, rfl, .inl (.inl (A.f _ _ (c _ _ hl))), atI_nat h, q v G1 H (Same.refl _) A (mn a r)⟩⟩
/-- an if, what comes behind it told once -/
theorem s_ifJ {b : Bool} (J : L2.St → Hp → Prop) (A : At G F H) (c : Same L F) (h : EvT tt σ G L b) (k : ∀ σ' H', J σ' H' → D.nx σ' H') (h1 : b = true → ∀ G' H', Same G G' → At G' F H' → (∀ σ' H', J σ' H' → D.nx σ' H') → tu D σ H') (h2 : b = false → ∀ G' H', Same G G' → At G' F H' → (∀ σ' H', J σ' H' → D.nx σ' H') → tw D σ H') : tIfS tt tu tw D σ H :=
  s_if A c h (fun e G' H' s A' => h1 e G' H' s A' k) fun e G' H' s A' => h2 e G' H' s A' k
end
section
variable {P : Program} {w : World} {K : Fg} {mg : Str → Option Value} {base : Heap} {a : Adr}

/-! _law_purse -/
-- 0 _law_script 1 _law_cell; cells 
abbrev sLPurse : Stmt := top 54
abbrev nLPurse : List Str := ["_law_script", "_law_cell"]
abbrev pLPurse : List Str := ["_law_script"]
theorem scLPurse : FnScope nLPurse pLPurse (defScope sLPurse) := ⟨rfl, rfl, rfl, by decide +kernel, rfl, by decide +kernel, by decide +kernel⟩
def spLPurse (K : Fg) (a : Adr) : Sp := fun vs H Q _ => ∃ (G F : Hp) (ns : List Int) (v1 : V), At G F H ∧ vs = [v1] ∧ RL K RI G v1 ns ∧ ns.length ≤ 1000 ∧ ∀ b ps G' H', Same G G' → F b = none → PuOk K G' ps → At G' (pu F b ps) H' → Q (.ref b) H'
theorem ok_LPurse (T : Txt K mg a) (h : Has K mg "_law_purse" sLPurse pLPurse) : Fd P w K mg base CX0 "_law_purse" pLPurse 1 (spLPurse K a) := by
  refine h.ok scLPurse (fun vs H Q E h => ?_) (fun f cdv A outer s H vs Q E hr h => ?_)
  · obtain ⟨_, _, _, v1, _, rfl, _⟩ := h
    rfl
  · obtain ⟨G, F, ns, v1, hA, rfl, r1, hn, k⟩ := h
    have nd := scLPurse.nd
    refine ⟨_, (pss_one (ps_ret (pe_lst (pa_cons (pe_lc (own := [("_law_cell", 1)]) (g := (gName 1)) (tt := tYes) rfl nd (k_seq (K := K) rfl (pe_slice (k_sl (K := K) rfl) (pv 0) po_none (po_some pe_int))) (blkOk_by (N := nLPurse) (sc := defScope sLPurse) (by decide +kernel)) (fun _ _ _ _ _ => (pg_name (i := 1) nd rfl (by first | exact Or.inl rfl | exact Or.inr rfl))) (fun _ _ _ _ _ => pts_nil) (fun _ _ _ _ _ => (pe_callB call_abs (by rfl) T.babs (by decide +kernel) (pa_cons (pe_callTy call_int1 (by rfl) T.bint (by decide +kernel) (pa_cons (pv 1) pa_nil)) pa_nil)))) (pa_cons pe_int (pa_cons pe_int (pa_cons (pe_op op_add pe_int (pe_op op_mul pe_int (pe_callB (k_len (K := K) rfl) (by rfl) T.blen PySem.boot_len (pa_cons (pe_slice (k_sl (K := K) rfl) (pv 0) po_none (po_some pe_int)) pa_nil)))) (pa_cons pe_int pa_nil)))))))), ?_⟩
    have hc := cut_le ns none (some 70)
    have e70 : ∀ {σ : L2.St} {G' : Hp}, EvO (tPart (tC (V.int 70))) σ G' no (some 70) := eo_some (n := 70) (ev_i (n := 70))
    refine s_retL (L := no) hA no_sub (P := PuOk K) (EvA.imp (ea_cons (R := RL K RI) (x := (cutN ns none (some 70)).map fun i => if i < 0 then -i else i) (EvF.ev (ef_lcX (S := RI) (R := RI) (ei_seqL (EvF.ev (ev_slL (ev_var rfl r1) eo_none e70))) (fun i => if i < 0 then -i else i) (by omega) fun i u G2 hi s2 q2 => ev_abs (ev_int1 (ev_var rfl q2)))) (ea_cons (ev_i (n := 0)) (ea_cons (ev_i (n := 0)) (ea_cons (ev_add (ev_i (n := 4099)) (ev_mul (ev_i (n := 31)) (ev_lenL (EvF.ev (ev_slL (ev_var rfl r1) eo_none e70))) (.inl ⟨by decide, by decide⟩))) (ea_cons (ev_i (n := 0)) ea_nil))))) ?_) ?_ ?_
    · rintro G' vs ⟨w1, r1, e1, q1, w2, r2, e2, q2, w3, r3, e3, q3, w4, r4, e4, q4, w5, r5, e5, q5, e6⟩
      subst e1 e2 e3 e4 e5 e6
      obtain ⟨c, cs, ec, z⟩ := id q1
      subst ec
      cases q2
      cases q3
      cases q4
      cases q5
      exact ⟨c, _, 0, 0, _, 0, rfl, q1⟩
    · rintro G' vs s ⟨c, cs, i, j, kk, m, e, r⟩
      subst e
      simp
    · exact fun l vs G' H' s n1 n2 A' p => k l vs G' H' s n1 p A'

/-! _law_part -/
-- 0 _law_purse_here 1 _law_many 2 _law_cell 3 _law_told 4 _law_made; cells 
abbrev sLPart : Stmt := top 55
abbrev nLPart : List Str := ["_law_purse_here", "_law_many", "_law_cell", "_law_told", "_law_made"]
abbrev pLPart : List Str := ["_law_purse_here", "_law_many"]
theorem scLPart : FnScope nLPart pLPart (defScope sLPart) := ⟨rfl, rfl, rfl, by decide +kernel, rfl, by decide +kernel, by decide +kernel⟩
def postN (m : Nat) (G : Hp) (v : V) : Prop := ∃ n, RN G v n ∧ n < m
def spLPart (K : Fg) (a : Adr) : Sp := SpQ (ι := Nat) K (fun m G ws => ∃ v2, ws = [v2] ∧ RN G v2 m ∧ 0 < m ∧ m ≤ 1000) (fun m G v => postN m G v)
theorem ok_LPart (T : Txt K mg a) (h : Has K mg "_law_part" sLPart pLPart) : Fd P w K mg base CX0 "_law_part" pLPart 1 (spLPart K a) := by
  refine h.ok scLPart (fun vs H Q E h => ?_) (fun f cdv A outer s H vs Q E hr h => ?_)
  · obtain ⟨i, G, F, b, ps, ws, rfl, _, _, _, ⟨v2, rfl, _⟩, _⟩ := h
    rfl
  · obtain ⟨m, G, F, b, ps, ws, rfl, nb, ⟨c, cs, i, j, kk, mm, rfl, rc⟩, hA, ⟨v2, rfl, r2, hm, hm2⟩, k⟩ := h
    cases r2
    have nd := scLPart.nd
    refine ⟨_, (pss_cons (ps_if (PW.pt (pw_and (pt_cmpR op_lt (pe_ix (k_ix (K := K) rfl) (pv 0) pe_int (fun _ _ => rfl)) pe_int (nomark _)) (pw_and1 (pt_cmpR op_lt (pe_ix (k_ix (K := K) rfl) (pv 0) pe_int (fun _ _ => rfl)) (pe_callB (k_len (K := K) rfl) (by rfl) T.blen PySem.boot_len (pa_cons (pe_ix (k_ix (K := K) rfl) (pv 0) pe_int (fun _ _ => rfl)) pa_nil)) (nomark _)))))
        (pss_cons (ps_set (i := 2) nd rfl (Or.inl rfl) (pe_ix (k_ix (K := K) rfl) (pe_ix (k_ix (K := K) rfl) (pv 0) pe_int (fun _ _ => rfl)) (pe_ix (k_ix (K := K) rfl) (pv 0) pe_int (fun _ _ => rfl)) (fun _ _ => rfl)))
        (pss_cons (ps_asg (pe_op op_add (pe_ix (k_ix (K := K) rfl) (pv 0) pe_int (fun _ _ => rfl)) pe_int) (pg_sub (pv 0) pe_int set_list))
        (pss_cons (ps_asg (pe_op op_modN (pe_callTy call_int1 (by rfl) T.bint (by decide +kernel) (pa_cons (pe_op op_add (pe_op op_add (pe_op op_mul (pe_ix (k_ix (K := K) rfl) (pv 0) pe_int (fun _ _ => rfl)) pe_int) (pv 2)) pe_int) pa_nil)) pe_int) (pg_sub (pv 0) pe_int set_list))
        (pss_one (ps_asg (pe_ifExp (pt_cmpR op_ge (pv 2) (pe_op op_pow pe_int pe_int) (nomark _)) (pv 2) pe_int) (pg_sub (pv 0) pe_int set_list))))))
        pss_nil)
      (pss_cons (ps_if (pt_cmpR op_gt (pe_ix (k_ix (K := K) rfl) (pv 0) pe_int (fun _ _ => rfl)) pe_int (nomark _))
        (pss_cons (ps_set (i := 3) nd rfl (Or.inl rfl) (pe_op op_modN (pe_callTy call_int1 (by rfl) T.bint (by decide +kernel) (pa_cons (pe_ix (k_ix (K := K) rfl) (pv 0) pe_int (fun _ _ => rfl)) pa_nil)) (pv 1)))
        (pss_cons (ps_asg (pe_op op_fdivN (pe_ix (k_ix (K := K) rfl) (pv 0) pe_int (fun _ _ => rfl)) (pv 1)) (pg_sub (pv 0) pe_int set_list))
        (pss_one (ps_ret (pv 3)))))
        pss_nil)
      (pss_cons (ps_asg (pe_op op_add (pe_ix (k_ix (K := K) rfl) (pv 0) pe_int (fun _ _ => rfl)) pe_int) (pg_sub (pv 0) pe_int set_list))
      (pss_cons (ps_set (i := 4) nd rfl (Or.inl rfl) (pe_op op_modN (pe_callTy call_int1 (by rfl) T.bint (by decide +kernel) (pa_cons (pe_op op_mul (pe_op op_add (pe_ix (k_ix (K := K) rfl) (pv 0) pe_int (fun _ _ => rfl)) (pe_op op_mul pe_int (pe_ix (k_ix (K := K) rfl) (pv 0) pe_int (fun _ _ => rfl)))) pe_int) pa_nil)) pe_int))
      (pss_cons (ps_set (i := 4) nd rfl (Or.inl rfl) (pe_op op_modN (pe_callTy call_int1 (by rfl) T.bint (by decide +kernel) (pa_cons (pe_op op_mul (pv 4) (pe_op op_add (pe_op op_fdivN (pv 4) pe_int) pe_int)) pa_nil)) pe_int))
      (pss_cons (ps_set (i := 4) nd rfl (Or.inl rfl) (pe_op op_modN (pe_callTy call_int1 (by rfl) T.bint (by decide +kernel) (pa_cons (pe_op op_mul (pv 4) (pe_op op_add (pe_op op_fdivN (pv 4) pe_int) pe_int)) pa_nil)) pe_int))
      (pss_one (ps_ret (pe_op op_modN (pe_callTy call_int1 (by rfl) T.bint (by decide +kernel) (pa_cons (pe_op op_fdivN (pv 4) pe_int) pa_nil)) (pv 1)))))))))), ?_⟩
    have L0 : ∀ {ps}, pu F b ps b = some (.lst ps) := fun {ps} => upd_same
    refine s_ifJ (L := pu F b _) (b := decide (j < 1) && decide ((i : Int) < (cs.length : Int))) (fun σ' H' => ∃ G' ps' u2, Same G G' ∧ PuOk K G' ps' ∧ At G' (pu F b ps') H' ∧ σ' = [some (.ref b), some (.int (m : Int)), u2, none, none]) hA (Same.refl _)
      (et_and (et_test (ev_cmp (f := fun i j => decide (i < j)) (ev_pu (n := 2) (R := RI) (x := j) rfl L0 rfl rfl) (ev_i (n := 1)))) fun _ => et_test (ev_cmp (f := fun i j => decide (i < j)) (ev_pu (n := 1) (R := RI) (x := (i : Int)) rfl L0 rfl rfl) (ev_lenL (ev_pu (n := 0) rfl L0 rfl rc)))) ?_ (fun hb G1 H1 s1 A1 kJ => ?_) fun hb G1 H1 s1 A1 kJ => ?_
    · rintro σ' H' ⟨G1, ps, u2, s1, ⟨c, cs, i, j, kk, mm, rfl, rc⟩, A1, rfl⟩
      refine nq ?_
      refine s_if (L := pu F b _) (b := decide (0 < j)) A1 (Same.refl _) (et_test (ev_cmp (f := fun i j => decide (j < i)) (ev_pu (n := 2) (R := RI) (x := j) rfl L0 rfl rfl) (ev_i (n := 0)))) (fun hb G2 H2 s2 A2 => ?_) fun hb G2 H2 s2 A2 => ?_
      · refine s_asg (L := pu F b _) A2 (Same.refl _) (R := RI) (x := j % (m : Int)) (ev_mod (ev_int1 (ev_pu (n := 2) (R := RI) (x := j) rfl L0 rfl rfl)) (ev_var (R := RN) rfl rfl).ni (by omega)) fun v3 G3 H3 s3 A3 r3 => ?_
        cases r3
        refine s_seti (L := pu F b _) A3 (Same.refl _) rfl L0 (R := RI) (x := j / (m : Int)) (ev_fdiv (ev_pu (n := 2) (R := RI) (x := j) rfl L0 rfl rfl) (ev_var (R := RN) rfl rfl).ni (by omega) (by omega)) (ev_i (n := 2)) (j := 2) rfl (by simp) fun v4 G4 H4 s4 A4 r4 => ?_
        cases r4
        rw [upd_upd] at A4
        refine s_ret (L := no) A4 no_sub (R := RI) (x := j % (m : Int)) (ev_var rfl rfl) fun v G5 H5 s5 A5 r5 => ?_
        cases r5
        have b1 := Int.emod_nonneg j (b := (m : Int)) (by omega)
        have b2 := Int.emod_lt_of_pos j (b := (m : Int)) (by omega)
        exact k _ G5 _ H5 (s1.trans (s2.trans (s3.trans (s4.trans s5)))) ⟨c, cs, i, _, kk, mm, rfl, mn (s2.trans (s3.trans (s4.trans s5))) rc⟩ A5 ⟨(j % (m : Int)).toNat, by show V.int _ = V.int _; rw [Int.toNat_of_nonneg b1], by omega⟩
      · refine nt ?_
        refine s_seti (L := pu F b _) A2 (Same.refl _) rfl L0 (R := RI) (x := mm + 1) (ev_add (ev_pu (n := 4) (R := RI) (x := mm) rfl L0 rfl rfl) ev_i) (ev_i (n := 4)) (j := 4) rfl (by simp) fun v4 G4 H4 s4 A4 r4 => ?_
        cases r4
        rw [upd_upd] at A4
        have L4 : ∀ {ps}, pu F b ps b = some (.lst ps) := fun {ps} => upd_same
        refine s_asg (L := pu F b _) A4 (Same.refl _) (R := RI) (x := (kk + 62089911 * (mm + 1)) * 69621 % 2147483563) (ev_mod (ev_int1 (ev_mul (ev_add (ev_pu (n := 3) (R := RI) (x := kk) rfl L4 rfl rfl) (ev_mul ev_i (ev_pu (n := 4) (R := RI) (x := mm + 1) rfl L4 rfl rfl) (.inl ⟨by decide, by decide⟩))) ev_i (.inr ⟨by decide, by decide⟩))) ev_i (by decide)) fun v5 G5 H5 s5 A5 r5 => ?_
        cases r5
        have c1 := Int.emod_nonneg ((kk + 62089911 * (mm + 1)) * 69621) (b := 2147483563) (by decide)
        have c2 := Int.emod_lt_of_pos ((kk + 62089911 * (mm + 1)) * 69621) (b := 2147483563) (by decide)
        generalize (kk + 62089911 * (mm + 1)) * 69621 % 2147483563 = z1 at A5 c1 c2 ⊢
        refine s_asg (L := pu F b _) A5 (Same.refl _) (R := RI) (x := z1 * (z1 / 1499 + 40014) % 2147483647) (ev_mod (ev_int1 (ev_mul (ev_var (R := RI) rfl rfl) (ev_add (ev_fdiv (ev_var (R := RI) rfl rfl) ev_i (by decide) (by decide)) ev_i) (.inl ⟨by omega, by omega⟩))) ev_i (by decide)) fun v6 G6 H6 s6 A6 r6 => ?_
        cases r6
        have d1 := Int.emod_nonneg (z1 * (z1 / 1499 + 40014)) (b := 2147483647) (by decide)
        have d2 := Int.emod_lt_of_pos (z1 * (z1 / 1499 + 40014)) (b := 2147483647) (by decide)
        generalize z1 * (z1 / 1499 + 40014) % 2147483647 = z2 at A6 d1 d2 ⊢
        refine s_asg (L := pu F b _) A6 (Same.refl _) (R := RI) (x := z2 * (z2 / 2777 + 39373) % 2147483629) (ev_mod (ev_int1 (ev_mul (ev_var (R := RI) rfl rfl) (ev_add (ev_fdiv (ev_var (R := RI) rfl rfl) ev_i (by decide) (by decide)) ev_i) (.inl ⟨by omega, by omega⟩))) ev_i (by decide)) fun v7 G7 H7 s7 A7 r7 => ?_
        cases r7
        generalize z2 * (z2 / 2777 + 39373) % 2147483629 = z3 at A7 ⊢
        refine s_ret (L := no) A7 no_sub (R := RI) (x := z3 / 64 % (m : Int)) (ev_mod (ev_int1 (ev_fdiv (ev_var (R := RI) rfl rfl) ev_i (by decide) (by decide))) (ev_var (R := RN) rfl rfl).ni (by omega)) fun v G8 H8 s8 A8 r8 => ?_
        cases r8
        have b1 := Int.emod_nonneg (z3 / 64) (b := (m : Int)) (by omega)
        have b2 := Int.emod_lt_of_pos (z3 / 64) (b := (m : Int)) (by omega)
        have S8 := s2.trans (s4.trans (s5.trans (s6.trans (s7.trans s8))))
        exact k _ G8 _ H8 (s1.trans S8) ⟨c, cs, i, j, kk, mm + 1, rfl, mn S8 rc⟩ A8 ⟨(z3 / 64 % (m : Int)).toNat, by show V.int _ = V.int _; rw [Int.toNat_of_nonneg b1], by omega⟩
    · have hi : i < cs.length := by
        simp at hb
        omega
      refine s_asg (L := pu F b _) A1 (Same.refl _) (R := RI) (x := ix cs i) (ev_ixL (n := i) (ev_pu (n := 0) rfl L0 rfl (mn s1 rc)) (ev_pu (n := 1) (R := RI) (x := (i : Int)) rfl L0 rfl rfl) rfl (ix_some hi)) fun v2 G2 H2 s2 A2 r2 => ?_
      cases r2
      refine s_seti (L := pu F b _) A2 (Same.refl _) rfl L0 (R := RI) (x := (i : Int) + 1) (ev_add (ev_pu (n := 1) (R := RI) (x := (i : Int)) rfl L0 rfl rfl) ev_i) (ev_i (n := 1)) (j := 1) rfl (by simp) fun v4 G4 H4 s4 A4 r4 => ?_
      cases r4
      rw [upd_upd] at A4
      refine s_seti (L := pu F b _) A4 (Same.refl _) rfl L0 (R := RI) (x := (kk * 48271 + ix cs i + 9) % 2147483399) (ev_mod (ev_int1 (ev_add (ev_add (ev_mul (ev_pu (n := 3) (R := RI) (x := kk) rfl L0 rfl rfl) ev_i (.inr ⟨by decide, by decide⟩)) (ev_var (R := RI) rfl rfl)) ev_i)) ev_i (by decide)) (ev_i (n := 3)) (j := 3) rfl (by simp) fun v5 G5 H5 s5 A5 r5 => ?_
      cases r5
      rw [upd_upd] at A5
      refine s_seti (L := pu F b _) A5 (Same.refl _) rfl L0 (R := RI) (x := if ix cs i ≥ 10 ^ 13 then ix cs i else 0) (ev_if (b := decide (ix cs i ≥ 10 ^ 13)) (et_test (ev_cmp (f := fun i j => decide (j ≤ i)) (ev_var (R := RI) rfl rfl) (ev_pow (n := 13) ev_i ev_i (by decide) (by decide)))) (fun h => (ev_var (R := RI) rfl rfl).is (by rw [if_pos (of_decide_eq_true h)])) fun h => ev_i.is (by rw [if_neg (of_decide_eq_false h)])) (ev_i (n := 2)) (j := 2) rfl (by simp) fun v6 G6 H6 s6 A6 r6 => ?_
      cases r6
      rw [upd_upd] at A6
      have S6 := s1.trans (s2.trans (s4.trans (s5.trans s6)))
      exact kJ _ _ ⟨G6, _, _, S6, ⟨c, cs, i + 1, _, _, mm, rfl, mn S6 rc⟩, A6, rfl⟩
    · exact kJ _ _ ⟨G1, _, _, s1, ⟨c, cs, i, j, kk, mm, rfl, mn s1 rc⟩, A1, rfl⟩
theorem ep_part {σ : L2.St} {G L : Hp} {b : Addr} {tb : TE} {E : XK} {m k : Nat} (hk : σ[k]? = some (some (.ref b))) (h2 : Ev tb σ G L RN m) (hm : 0 < m) (hm2 : m ≤ 1000) : EvP K (tCall (spLPart K a) [] E (tCons (tVar k) (tCons tb tNil))) σ G L b (postN m) :=
  ep_callQ (post := fun m G v => postN m G v) hk m (ea1 h2) fun G' vs s ⟨v, e, q⟩ => ⟨v, e, q, hm, hm2⟩
end
end MW

set_option Elab.async false
set_option linter.all false
set_option maxRecDepth 100000
set_option maxHeartbeats 4000000
/-! Walks: what the law draws. -/
namespace MW
open PySem PySem.Spec PyProof.Rows L2
theorem rep_flat {α : Type} (w : α) : ∀ n, (List.replicate n [w]).flatten = List.replicate n w
  | 0 => rfl
  | n + 1 => by rw [List.replicate_succ, List.flatten_cons, rep_flat w n, List.replicate_succ]; rfl
theorem rep_p {α β : Type} {R : α → β → Prop} {x : α} {y : β} (r : R x y) : ∀ n, Paired R (List.replicate n x) (List.replicate n y)
  | 0 => .nil
  | n + 1 => .cons r (rep_p r n)
section
variable {α : Type} {K : Fg} {σ : L2.St} {G F H L : Hp} {ta tb te : TE} {tr : TA} {tt : TT} {tu tw : TS} {D : Ends} {R : Rel α} {x : α} {b : Addr} {ps : List V} {P : Hp → V → Prop}
/-- (e,) * n -/
theorem ev_rep1 [Mn R] {n : Nat} (h1 : Ev te σ G L R x) (h2 : Ev tb σ G L RN n) (hn : n ≤ 1000) : Ev (tOp (rRepA K) (tTup (tCons te tNil)) tb) σ G L (RT K R) (List.replicate n x) :=
  ev_bin (R := RT K R) (x := [x]) (ev_tup (ea_consR h1 ea_nilR) (by simp)) h2 fun v u G1 F H _ _ A ⟨a, vs, e1, q1, p1⟩ r2 Q q => by
    cases p1 with
    | cons r t =>
      cases t
      rename_i w
      refine ⟨a, (n : Int), [w], e1, r2, sqtS A.g q1, by simp, by omega, by omega, by simp, fun e => ?_, fun e p hp => ?_⟩
      · obtain rfl : n = 1 := by omega
        exact q _ G1 H (Same.refl _) A ⟨a, [w], rfl, q1, .cons r .nil⟩
      · have e2 : (List.replicate (n : Int).toNat [w]).flatten = List.replicate n w := by
          rw [Int.toNat_natCast]
          exact rep_flat w n
        rw [e2]
        have s := same_new (o := .tup (List.replicate n w)) (A.nG hp)
        exact q _ _ _ s (A.new hp) ⟨p, _, rfl, .inl (.inl upd_same), rep_p (mn s r) n⟩
/-- range(e), e draws -/
theorem s_rngP {g : TG} {tb' : TS} (A : At G (pu F b ps) H) (c : Same L F) (nb : F b = none) (pk : PuOk K G ps) (h : EvP K te σ G L b P) (k : ∀ v G' ps' H', Same G G' → PuOk K G' ps' → At G' (pu F b ps') H' → P G' v → tFor (iRng1 (tCons (tC v) tNil)) g tb' D σ H') : tFor (iRng1 (tCons te tNil)) g tb' D σ H :=
  h G F H ps (Same.refl _) c nb pk A _ fun v G2 ps2 H2 s2 p2 A2 r2 => k v G2 ps2 H2 s2 p2 A2 r2
theorem s_asgP {i : Nat} (A : At G (pu F b ps) H) (c : Same L F) (nb : F b = none) (pk : PuOk K G ps) (h : EvP K te σ G L b P) (k : ∀ v G' ps' H', Same G G' → PuOk K G' ps' → At G' (pu F b ps') H' → P G' v → D.nx (σ.set i (some v)) H') : tAsg te (gName i) D σ H :=
  h G F H ps (Same.refl _) c nb pk A _ fun v G2 ps2 H2 s2 p2 A2 r2 => k v G2 ps2 H2 s2 p2 A2 r2
theorem s_retP (A : At G (pu F b ps) H) (c : Same L F) (nb : F b = none) (pk : PuOk K G ps) (h : EvP K te σ G L b P) (k : ∀ v G' ps' H', Same G G' → PuOk K G' ps' → At G' (pu F b ps') H' → P G' v → D.rt v H') : tRet te D σ H :=
  h G F H ps (Same.refl _) c nb pk A _ fun v G2 ps2 H2 s2 p2 A2 r2 => k v G2 ps2 H2 s2 p2 A2 r2
theorem s_ifP (A : At G (pu F b ps) H) (c : Same L F) (nb : F b = none) (pk : PuOk K G ps) (h : EvTP K tt σ G L b) (k1 : ∀ G' ps' H', Same G G' → PuOk K G' ps' → At G' (pu F b ps') H' → tu D σ H') (k2 : ∀ G' ps' H', Same G G' → PuOk K G' ps' → At G' (pu F b ps') H' → tw D σ H') : tIfS tt tu tw D σ H :=
  h G F H ps (Same.refl _) c nb pk A _ fun r G2 ps2 H2 s2 p2 A2 => by
    cases r with
    | true => exact k1 G2 ps2 H2 s2 p2 A2
    | false => exact k2 G2 ps2 H2 s2 p2 A2
theorem s_par2P {i j : Nat} {P' : Hp → V → Prop} (A : At G (pu F b ps) H) (c : Same L F) (nb : F b = none) (pk : PuOk K G ps) (hm : ∀ G' G'' v, Same G' G'' → P G' v → P G'' v) (h : EvP K te σ G L b P) (h' : EvP K tb σ G L b P') (k : ∀ v w G' ps' H', Same G G' → PuOk K G' ps' → At G' (pu F b ps') H' → P G' v → P' G' w → D.nx ((σ.set i (some v)).set j (some w)) H') : tPar i j (tCons te (tCons tb tNil)) D σ H :=
  h G F H ps (Same.refl _) c nb pk A _ fun v G2 ps2 H2 s2 p2 A2 r2 => h' G2 F H2 ps2 s2 c nb p2 A2 _ fun w G3 ps3 H3 s3 p3 A3 r3 => ⟨v, w, rfl, k v w G3 ps3 H3 (s2.trans s3) p3 A3 (hm _ _ _ s3 r2) r3⟩
end
theorem isE_any (d : WebD) (q : Nat) : isE d q = !(d.arrows.any fun p => p.1 == q) := by
  unfold isE
  rw [Bool.eq_iff_iff]
  simp only [beq_iff_eq, List.length_eq_zero_iff, Bool.not_eq_true', List.any_eq_false]
  unfold begW
  rw [List.filter_eq_nil_iff]
  constructor
  · intro h p hp
    obtain ⟨i, hi, e⟩ := List.getElem_of_mem hp
    have := h i (List.mem_range.mpr hi)
    have e2 : ar d i = p := by unfold ar; simp [hi, e]
    rw [e2] at this
    simpa using this
  · intro h i hi
    have hi := List.mem_range.mp hi
    have := h (ar d i) (List.mem_of_getElem? (getD_some hi (0, 0)))
    simpa using this
theorem end_any (d : WebD) (q : Nat) : ((endW d q).length == 0) = !(d.arrows.any fun p => p.2 == q) := by
  rw [Bool.eq_iff_iff]
  simp only [beq_iff_eq, List.length_eq_zero_iff, Bool.not_eq_true', List.any_eq_false]
  unfold endW
  rw [List.filter_eq_nil_iff]
  constructor
  · intro h p hp
    obtain ⟨i, hi, e⟩ := List.getElem_of_mem hp
    have := h i (List.mem_range.mpr hi)
    have e2 : ar d i = p := by unfold ar; simp [hi, e]
    rw [e2] at this
    simpa using this
  · intro h i hi
    have hi := List.mem_range.mp hi
    have := h (ar d i) (List.mem_of_getElem? (getD_some hi (0, 0)))
    simpa using this
def isT (d : WebD) (q : Nat) : Bool := isE d q || isB d q
theorem isT_any (d : WebD) (q : Nat) : isT d q = (!(d.arrows.any fun p => p.1 == q) || !(d.arrows.any fun p => p.2 == q)) := by
  unfold isT isB
  rw [end_any, isE_any]
  cases d.arrows.any (fun p => p.1 == q) <;> cases d.arrows.any (fun p => p.2 == q) <;> rfl
theorem okT_nat {d : WebD} {q : Nat} (h : q < d.many) : okT d (some (q : Int)) = isT d q := by
  unfold okT isT
  rw [isEO_nat h, isBO_nat h]
section
variable {P : Program} {w : World} {K : Fg} {mg : Str → Option Value} {base : Heap} {a : Adr}

/-! _law_one -/
-- 0 _law_purse_here 1 _law_some; cells 
abbrev sLOne : Stmt := top 56
abbrev nLOne : List Str := ["_law_purse_here", "_law_some"]
abbrev pLOne : List Str := ["_law_purse_here", "_law_some"]
theorem scLOne : FnScope nLOne pLOne (defScope sLOne) := ⟨rfl, rfl, rfl, by decide +kernel, rfl, by decide +kernel, by decide +kernel⟩
def spLOne (K : Fg) (a : Adr) : Sp := SpQ (ι := List (Option Int)) K (fun xs G ws => ∃ v2, ws = [v2] ∧ RL K (RO K) G v2 xs ∧ 0 < xs.length ∧ xs.length ≤ 1000) (fun xs G v => ∃ x, x ∈ xs ∧ RO K G v x)
theorem ok_LOne (T : Txt K mg a) (h : Has K mg "_law_one" sLOne pLOne) (G__law_part : Fd P w K mg base CX0 "_law_part" pLPart 1 (spLPart K a)) : Fd P w K mg base CX0 "_law_one" pLOne 2 (spLOne K a) := by
  refine h.ok scLOne (fun vs H Q E h => ?_) (fun f cdv A outer s H vs Q E hr h => ?_)
  · obtain ⟨i, G, F, b, ps, ws, rfl, _, _, _, ⟨v2, rfl, _⟩, _⟩ := h
    rfl
  · obtain ⟨xs, G, F, b, ps, ws, rfl, nb, pk, hA, ⟨v2, rfl, r2, hl, hl2⟩, k⟩ := h
    have nd := scLOne.nd
    refine ⟨_, (pss_one (ps_ret (pe_ix (k_ix (K := K) rfl) (pv 1) (pe_fd G__law_part (hr.mono (by decide)) (by rfl) (pa_cons (pv 0) (pa_cons (pe_callB (k_len (K := K) rfl) (by rfl) T.blen PySem.boot_len (pa_cons (pv 1) pa_nil)) pa_nil))) (fun _ _ => rfl)))), ?_⟩
    refine ⟨_, rfl, ?_⟩
    refine ep_part (L := no) (m := xs.length) (k := 0) rfl ((ev_lenL (ev_var rfl r2)).inn rfl) hl hl2 G F H ps (Same.refl _) no_sub nb pk hA _ fun v G2 ps2 H2 s2 p2 A2 ⟨n, rn, hn⟩ => ?_
    refine ev_ixL (σ := []) (n := n) (R := RO K) (x := xs[n]) (ev_cR (mn s2 r2)) (ev_cR (R := RN) (x := n) rn).ni rfl (by simp [hn]) G2 _ H2 (Same.refl _) (no_sub (F := pu F b ps2)) A2 _ fun v3 G3 H3 s3 A3 r3 => ?_
    exact k _ G3 ps2 H3 (s2.trans s3) (p2.mn s3) A3 ⟨xs[n], List.getElem_mem hn, r3⟩

/-! _law_deep -/
-- 0 _law_many 1 _law_thing 2 _law_again; cells 
abbrev sLDeep : Stmt := top 67
abbrev nLDeep : List Str := ["_law_many", "_law_thing", "_law_again"]
abbrev pLDeep : List Str := ["_law_many"]
theorem scLDeep : FnScope nLDeep pLDeep (defScope sLDeep) := ⟨rfl, rfl, rfl, by decide +kernel, rfl, by decide +kernel, by decide +kernel⟩
def spLDeep (K : Fg) (a : Adr) : Sp := SpP (ι := Nat) (fun n G vs => ∃ v1, vs = [v1] ∧ RN G v1 n ∧ n ≤ 1000) (fun _ G v => RTy K "tuple" G v ())
theorem ok_LDeep (T : Txt K mg a) (h : Has K mg "_law_deep" sLDeep pLDeep) : Fd P w K mg base CX0 "_law_deep" pLDeep 1 (spLDeep K a) := by
  refine h.ok scLDeep (fun vs H Q E h => ?_) (fun f cdv A outer s H vs Q E hr h => ?_)
  · obtain ⟨i, G, F, _, ⟨v1, rfl, _⟩, _⟩ := h
    rfl
  · obtain ⟨n, G, F, hA, ⟨v1, rfl, r1, hn⟩, k⟩ := h
    have nd := scLDeep.nd
    refine ⟨_, (pss_cons (ps_set (i := 1) nd rfl (Or.inl rfl) (pe_tup pa_nil))
      (pss_cons (ps_for PassesOwn.never rfl (pi_range1 (by rfl) T.brange (pa_cons (pv 0) pa_nil)) (pg_name (i := 2) nd rfl (by first | exact Or.inl rfl | exact Or.inr rfl))
        (pss_one (ps_set (i := 1) nd rfl (Or.inl rfl) (pe_tup (pa_cons (pv 1) pa_nil)))))
      (pss_one (ps_ret (pv 1))))), ?_⟩
    have tt : ∀ {α : Type} {R : Rel α} {G : Hp} {v : V} {xs : List α}, RT K R G v xs → RTy K "tuple" G v () := fun ⟨x, vs, e, hq, _⟩ => by rw [e]; exact tyx_tup hq
    refine s_asg (L := no) hA no_sub (R := RTy K "tuple") (x := ()) (Ev.imp (ev_tup (R := RX) (xs := []) ea_nilR (by simp)) fun _ _ q => tt q) fun v2 G1 H1 s1 A1 q1 => ?_
    refine s_for (L := no) (n := n) A1 no_sub (ei_rangeN (ev_var (R := RN) rfl (mn s1 r1)).ni (by omega)) (fun i σ G' F' => F' = F ∧ Same G1 G' ∧ ∃ u2 u3, RTy K "tuple" G' u2 () ∧ σ = [some v1, some u2, u3]) (fun G' s => ⟨rfl, s, v2, none, mn s q1, rfl⟩) (fun _ _ _ _ _ => no_sub) ?_ ?_
    · rintro G0 s0 i v σ' G' F' H' hi ⟨rfl, s4, u2, u3, q, rfl⟩ G'' s5 s6 A4 rfl
      refine s_asg (L := no) A4 no_sub (R := RTy K "tuple") (x := ()) (Ev.imp (ev_tup (xs := [()]) (ea_consR (ev_var rfl (mn s5 q)) ea_nilR) (by simp)) fun _ _ q => tt q) fun v2 G5 H5 s7 A5 q5 => ?_
      exact ⟨G5, F', s6.trans s7, A5, rfl, (s4.trans s5).trans s7, _, _, q5, rfl⟩
    · rintro σ' G' F' H' s4 A4 ⟨rfl, s5, u2, u3, q, rfl⟩
      exact s_ret (L := no) A4 no_sub (ev_var rfl q) fun v G5 H5 s6 A5 q5 => k v G5 H5 (s1.trans (s4.trans s6)) A5 q5

/-! _law_rows -/
-- 0 _law_purse_here 1 _law_prime 2 _law_high 3 _law_wide 4 _law_row 5 _law_place; cells _law_prime _law_purse_here _law_wide
abbrev sLRows : Stmt := top 60
abbrev nLRows : List Str := ["_law_purse_here", "_law_prime", "_law_high", "_law_wide", "_law_row", "_law_place"]
abbrev pLRows : List Str := ["_law_purse_here", "_law_prime", "_law_high", "_law_wide"]
theorem scLRows : FnScope nLRows pLRows (defScope sLRows) := ⟨rfl, rfl, rfl, by decide +kernel, rfl, by decide +kernel, by decide +kernel⟩
def spLRows (K : Fg) (a : Adr) : Sp := SpQ (ι := Nat × Nat × Nat) K (fun i G ws => ∃ v2 v3 v4, ws = [v2, v3, v4] ∧ RN G v2 i.1 ∧ RN G v3 i.2.1 ∧ RN G v4 i.2.2 ∧ 0 < i.1 ∧ i.1 ≤ 13 ∧ i.2.1 ≤ 1000 ∧ i.2.2 ≤ 1000) (fun i G v => ∃ rows, RT K (RT K RI) G v rows ∧ rows.length = i.2.1 ∧ ∀ r ∈ rows, Wr (i.1 : Int) i.2.2 r)
theorem ok_LRows (T : Txt K mg a) (h : Has K mg "_law_rows" sLRows pLRows) (G__law_part : Fd P w K mg base CX0 "_law_part" pLPart 1 (spLPart K a)) : Fd P w K mg base CX0 "_law_rows" pLRows 2 (spLRows K a) := by
  refine h.ok scLRows (fun vs H Q E h => ?_) (fun f cdv A outer s H vs Q E hr h => ?_)
  · obtain ⟨i, G, F, b, ps, ws, rfl, _, _, _, ⟨v2, v3, v4, rfl, _⟩, _⟩ := h
    rfl
  · obtain ⟨⟨p, hi, wd⟩, G, F, b, ps, ws, rfl, nb, pk, hA, ⟨v2, v3, v4, rfl, r2, r3, r4, hp, hp2, hh, hw⟩, k⟩ := h
    dsimp only at r2 r3 r4 hp hp2 hh hw
    cases r2
    cases r3
    cases r4
    have nd := scLRows.nd
    refine ⟨_, (pss_cons (ps_if (pt_cmpR op_eq (pe_fd G__law_part (hr.mono (by decide)) (by rfl) (pa_cons (pv 0) (pa_cons pe_int pa_nil))) pe_int (nomark _))
        (pss_one (ps_ret (pe_op (k_repA (K := K) rfl) (pe_tup (pa_cons (pe_op (k_repA (K := K) rfl) (pe_tup (pa_cons pe_int pa_nil)) (pv 3)) pa_nil)) (pv 2))))
        pss_nil)
      (pss_one (ps_ret (pe_callTy (k_tuple (K := K) rfl) (by rfl) T.btuple (by decide +kernel) (pa_cons (pe_lc (own := [("_law_row", 4)]) (g := (gName 4)) (tt := tYes) rfl nd (pi_range1 (by rfl) T.brange (pa_cons (pv 2) pa_nil)) (blkOk_by (N := nLRows) (sc := defScope sLRows) (by decide +kernel)) (fun _ _ _ _ _ => (pg_name (i := 4) nd rfl (by first | exact Or.inl rfl | exact Or.inr rfl))) (fun _ _ _ _ _ => pts_nil) (fun _ _ _ _ _ => (pe_callTy (k_tuple (K := K) rfl) (by rfl) T.btuple (by decide +kernel) (pa_cons (pe_lc (own := [("_law_place", 5)]) (g := (gName 5)) (tt := tYes) rfl nd (pi_range1 (by rfl) T.brange (pa_cons (pv 3) pa_nil)) (blkOk_by (N := nLRows) (sc := (relS _ (defScope sLRows))) (by decide +kernel)) (fun _ _ _ _ _ => (pg_name (i := 5) nd rfl (by first | exact Or.inl rfl | exact Or.inr rfl))) (fun _ _ _ _ _ => pts_nil) (fun _ _ _ _ _ => (pe_fd G__law_part (hr.mono (by decide)) (by rfl) (pa_cons (pv 0) (pa_cons (pv 1) pa_nil))))) pa_nil)))) pa_nil))))), ?_⟩
    refine s_ifP (L := no) hA no_sub nb pk (etp_test (ep_first (f := fun t => tOp rEq t (tC (.int 0))) (fun _ _ _ h => h) (ep_part (m := 8) rfl ((ev_i (n := 8)).inn (n := 8) rfl) (by decide) (by decide)) fun v G' s ⟨n, rn, hn⟩ => (Ev.ep (ev_eqI (ev_cR (R := RN) (x := n) rn).ni ev_i)).imp fun _ v r => ⟨_, r⟩)) (fun G1 ps1 H1 s1 p1 A1 => ?_) fun G1 ps1 H1 s1 p1 A1 => ?_
    · refine s_ret (L := no) A1 no_sub (R := RT K (RT K RI)) (x := List.replicate hi (List.replicate wd 0)) (ev_rep1 (ev_rep1 ev_i (ev_var (R := RN) rfl rfl) hw) (ev_var (R := RN) rfl rfl) hh) fun v G2 H2 s2 A2 q2 => ?_
      refine k v G2 ps1 H2 (s1.trans s2) (p1.mn s2) A2 ⟨_, q2, by simp, fun r hr => ?_⟩
      rw [(List.mem_replicate.mp hr).2]
      refine ⟨by simp, fun x hx => ?_⟩
      rw [(List.mem_replicate.mp hx).2]
      dsimp only
      omega
    · refine nt ?_
      refine s_retP (L := no) A1 no_sub nb p1 (ep_tupL (R := RT K RI) (EvFP.ep (ep_lcR (ev_var (R := RN) rfl rfl) (by omega) (fun _ r => Wr (p : Int) wd r) fun i v G' hi' s q => (ep_tupL (R := RI) (EvFP.ep (ep_lcR (R := RI) (ev_var (R := RN) rfl rfl) (by omega) (fun _ x => 0 ≤ x ∧ x < (p : Int)) fun i' v' G'' hi'' s' q' => (ep_part rfl (ev_var (R := RN) rfl rfl) hp (by omega)).imp fun _ v ⟨n, rn, hn⟩ => ⟨(n : Int), rn, by omega, by omega⟩))).imp fun _ v ⟨xs, r, hl, hx⟩ => ⟨xs, r, hl, fun x hx' => by obtain ⟨i, hi⟩ := List.getElem?_of_mem hx'; exact hx i x hi⟩))) fun v G2 ps2 H2 s2 p2 A2 ⟨rows, r, hl, hx⟩ => ?_
      exact k v G2 ps2 H2 (s1.trans s2) p2 A2 ⟨rows, r, hl, fun r hr => by obtain ⟨i, hi⟩ := List.getElem?_of_mem hr; exact hx i r hi⟩
end
end MW

set_option Elab.async false
set_option linter.all false
set_option maxRecDepth 100000
set_option maxHeartbeats 4000000
/-! Walks: what the law draws: pictures, webs, odd things. -/
namespace MW
open PySem PySem.Spec PyProof.Rows L2
section
variable {P : Program} {w : World} {K : Fg} {mg : Str → Option Value} {base : Heap} {a : Adr}

/-! _law_picture -/
-- 0 _law_purse_here 1 _law_web 2 _law_prime 3 _law_sizes 4 _law_tables 5 _law_a 6 _law_b; cells _law_prime _law_purse_here _law_sizes
abbrev sLPicture : Stmt := top 61
abbrev nLPicture : List Str := ["_law_purse_here", "_law_web", "_law_prime", "_law_sizes", "_law_tables", "_law_a", "_law_b"]
abbrev pLPicture : List Str := ["_law_purse_here", "_law_web", "_law_prime", "_law_sizes"]
theorem scLPicture : FnScope nLPicture pLPicture (defScope sLPicture) := ⟨rfl, rfl, rfl, by decide +kernel, rfl, by decide +kernel, by decide +kernel⟩
def spLPicture (K : Fg) (a : Adr) : Sp := SpQ (ι := WebD × Nat × List Nat) K (fun i G ws => ∃ v2 v3 v4, ws = [v2, v3, v4] ∧ RWeb K a G v2 i.1 ∧ RN G v3 i.2.1 ∧ RT K RN G v4 i.2.2 ∧ okWeb i.1 ∧ P4 (i.2.1 : Int) ∧ i.2.2.length = i.1.many ∧ ∀ s ∈ i.2.2, s ≤ 6) (fun i G v => ∃ d, RPic K a G v d ∧ okPic d ∧ d.web = i.1)
theorem P4.bd {p : Nat} (h : P4 (p : Int)) : 0 < p ∧ p ≤ 13 := by
  rcases h with h | h | h | h <;> omega
theorem preTab_mn {d : TabD} {G G' : Hp} {ws : List V} (s : Same G G') (h : preTab K d G ws) : preTab K d G' ws := let ⟨v1, v2, v3, e, r1, r2, r3⟩ := h; ⟨v1, v2, v3, e, r1, r2, mn s r3⟩
theorem prePic_mn {d : PicD} {G G' : Hp} {ws : List V} (s : Same G G') (h : prePic K a d G ws) : prePic K a d G' ws := let ⟨v1, v2, v3, v4, e, r1, r2, r3, r4⟩ := h; ⟨v1, v2, v3, v4, e, mn s r1, r2, mn s r3, mn s r4⟩
theorem ok_LPicture (T : Txt K mg a) (h : Has K mg "_law_picture" sLPicture pLPicture) (G__law_rows : Fd P w K mg base CX0 "_law_rows" pLRows 2 (spLRows K a)) (G_Table : Md P w K mg base CX0 a.Tb "__init__" pTableInit 5 (SpI a.Tb (fun d G ws => preTab K d G ws ∧ okTab d) (fsTab K)))
    (G_Picture : Md P w K mg base CX0 a.Pc "__init__" pPictureInit 5 (SpI a.Pc (fun d G ws => prePic K a d G ws ∧ okPic d) (fsPic K a))) : Fd P w K mg base CX0 "_law_picture" pLPicture 7 (spLPicture K a) := by
  refine h.ok scLPicture (fun vs H Q E h => ?_) (fun f cdv A outer s H vs Q E hr h => ?_)
  · obtain ⟨i, G, F, b, ps, ws, rfl, _, _, _, ⟨v2, v3, v4, rfl, _⟩, _⟩ := h
    rfl
  · obtain ⟨⟨d, p, ss⟩, G, F, b, ps, ws, rfl, nb, pk, hA, ⟨v2, v3, v4, rfl, r2, r3, r4, okw, hp, hl, hs⟩, k⟩ := h
    dsimp only at r2 r3 r4 okw hp hl hs
    cases r3
    have nd := scLPicture.nd
    refine ⟨_, (pss_cons (ps_setLc (i := 4) (own := [("_law_a", 5), ("_law_b", 6)]) (g := (gTup K 2 (gCons (gName 5) (gCons (gName 6) gNil)))) (tt := tYes) rfl nd rfl rfl (sw_true rfl rfl rfl (by decide +kernel)) (k_seq (K := K) rfl (k_fld (K := K) rfl (pv 1) rfl)) (blkOk_by (N := nLPicture) (sc := defScope sLPicture) (by decide +kernel)) (fun _ _ _ _ _ => (k_tup (K := K) rfl rfl (pgs_cons (pg_name (i := 5) nd rfl (by first | exact Or.inl rfl | exact Or.inr rfl)) (pgs_cons (pg_name (i := 6) nd rfl (by first | exact Or.inl rfl | exact Or.inr rfl)) pgs_nil)))) (fun _ _ _ _ _ => pts_nil) (fun _ _ _ _ _ => (pe_mk T.cTb G_Table (hr.mono (by decide)) (by rfl) (pa_cons (pv 2) (pa_cons (pe_ix (k_ix (K := K) rfl) (pv 3) (pv 5) (fun _ _ => rfl)) (pa_cons (pe_fd G__law_rows (hr.mono (by decide)) (by rfl) (pa_cons (pv 0) (pa_cons (pv 2) (pa_cons (pe_ix (k_ix (K := K) rfl) (pv 3) (pv 6) (fun _ _ => rfl)) (pa_cons (pe_ix (k_ix (K := K) rfl) (pv 3) (pv 5) (fun _ _ => rfl)) pa_nil))))) pa_nil))))))
      (pss_one (ps_ret (pe_mk T.cPc G_Picture (hr.mono (by decide)) (by rfl) (pa_cons (pv 1) (pa_cons (pv 2) (pa_cons (pv 3) (pa_cons (pe_callTy (k_tuple (K := K) rfl) (by rfl) T.btuple (by decide +kernel) (pa_cons (pv 4) pa_nil)) pa_nil)))))))), ?_⟩
    have hpb := hp.bd
    have ha := okw.a
    have hm2 := okw.m2
    have hsz : ∀ i, ss.getD i 0 ≤ 6 := fun i => by
      by_cases h : i < ss.length
      · have e : ss.getD i 0 = ss[i] := by simp [h]
        rw [e]
        exact hs _ (List.getElem_mem h)
      · simp [List.getD, h]
    refine s_asgP (L := no) hA no_sub nb pk (EvFP.ep (ep_lcP (R := RTab K a) (S := RN) (U := RN) (ei_seqT (ev_wArr T (ev_var rfl r2))) (by omega) (fun i t => t.p = p ∧ t.rows.length = ss.getD (ar d i).2 0 ∧ t.wide = ss.getD (ar d i).1 0 ∧ ∀ r ∈ t.rows, Wr (p : Int) t.wide r) fun i x u1 u2 G1 hx s1 q1 q2 => ?_)) fun v5 G1 ps1 H1 s1 p1 A1 ⟨tabs, r5, hl5, h5⟩ => ?_
    · have hb := okw.b x (List.mem_of_getElem? hx)
      have ex : ar d i = x := by unfold ar; simp [List.getD, hx]
      have r4' := mn s1 r4
      have e1 := hsz x.1
      have e2 := hsz x.2
      refine ep_args (P' := fun G' ws => ∃ rows, preTab K ⟨p, ss.getD x.1 0, rows⟩ G' ws ∧ rows.length = ss.getD x.2 0 ∧ ∀ r ∈ rows, Wr (p : Int) (ss.getD x.1 0) r) (fun _ _ _ h => h) (EvAP.imp (P := (fun G' ws => ∃ v r, ws = v :: r ∧ RI G' v (p : Int) ∧ ∃ v' r', r = v' :: r' ∧ RN G' v' (ss.getD x.1 0) ∧ ∃ v'' r'', r' = v'' :: r'' ∧ (∃ rows, RT K (RT K RI) G' v'' rows ∧ rows.length = ss.getD x.2 0 ∧ ∀ r ∈ rows, Wr (p : Int) (ss.getD x.1 0) r) ∧ r'' = [])) ?_ ?_) fun ws G2 s2 ⟨rows, hpre, hlr, hwr⟩ => ?_
      · refine eap_cons (fun _ _ _ _ h => h) (Ev.ep (ev_var (R := RI) rfl rfl)) (eap_cons (fun _ _ _ _ h => h) (Ev.ep (ev_ixT (n := x.1) (ev_var rfl r4') (ev_var (R := RN) rfl q1).ni rfl (getD_some (by omega) 0))) (eap_cons (fun _ _ _ s ⟨rows, r, h⟩ => ⟨rows, mn s r, h⟩) ?_ eap_nil))
        exact ep_callQ (post := fun (i : Nat × Nat × Nat) G v => ∃ rows, RT K (RT K RI) G v rows ∧ rows.length = i.2.1 ∧ ∀ r ∈ rows, Wr (i.1 : Int) i.2.2 r) rfl (p, ss.getD x.2 0, ss.getD x.1 0) (ea3 (R := RN) (S := RN) (U := RN) (ev_var rfl rfl) (ev_ixT (n := x.2) (ev_var rfl r4') (ev_var (R := RN) rfl q2).ni rfl (getD_some (by omega) 0)) (ev_ixT (n := x.1) (ev_var rfl r4') (ev_var (R := RN) rfl q1).ni rfl (getD_some (by omega) 0))) fun G' vs s ⟨z1, z2, z3, e, q1, q2, q3⟩ => ⟨z1, z2, z3, e, q1, q2, q3, hpb.1, hpb.2, by dsimp only; omega, by dsimp only; omega⟩
      · rintro G' ws ⟨w1, t1, e1, z1, w2, t2, e2, z2, w3, t3, e3, ⟨rows, z3, z4⟩, e4⟩
        subst e1 e2 e3 e4
        exact ⟨rows, ⟨w1, w2, w3, rfl, z1, z2, z3⟩, z4⟩
      · refine (Ev.ep (ev_mk (R := RTab K a) (y := ⟨p, ss.getD x.1 0, rows⟩) ⟨p, ss.getD x.1 0, rows⟩ ea_c (fun G' vs s e => ?_) (fun _ _ _ s q => fsTab_mn s q) fun G' x dx fl s ⟨e1, e2, e3, r, e4, e5⟩ hx => ⟨x, _, dx, fl, r, rfl, .inl rfl, hx, e1, e2, e3, e4, e5⟩)).imp fun G' v r => ⟨_, r, rfl, ?_⟩
        · rw [e]
          exact ⟨preTab_mn s hpre, isP_of hp, by dsimp only; omega, by dsimp only; omega, hwr⟩
        · rw [ex]
          exact ⟨hlr, rfl, hwr⟩
    · have okd : okPic ⟨d, p, ss, tabs⟩ := ⟨okw, hp, hl, hs, hl5, fun i hi => by
        have h := h5 i _ (getD_some (by rw [hl5]; exact hi) tb0)
        exact ⟨h.1, h.2.1, h.2.2.1, h.2.2.2⟩⟩
      refine s_ret (L := no) A1 no_sub (R := RPic K a) (x := ⟨d, p, ss, tabs⟩) (ev_pic ⟨d, p, ss, tabs⟩ okd (ev_var rfl (mn s1 r2)) (ev_var rfl rfl) (ev_var rfl (mn s1 r4)) (ev_tupL (ev_var rfl r5))) fun v G2 H2 s2 A2 q2 => ?_
      exact k v G2 ps1 H2 (s1.trans s2) (p1.mn s2) A2 ⟨_, q2, okd, rfl⟩

theorem tyx_lst {K : Fg} {G : Hp} {x : Addr} {vs : List V} (h : SqL K G x vs) : TyX K G (.ref x) (.type "list") := by
  rcases h with (h | ⟨o, h⟩) | ⟨o, its, n, h1, h2, _⟩
  · exact .base (.lst h)
  · exact .base (.frz h)
  · exact .kList h1 h2
theorem ev_roT {σ : L2.St} {G L : Hp} {ta : TE} {t : String} {c d : Bool} (h : Ev ta σ G L (RTy K t) ()) (h1 : kitB t "int" = some c) (h2 : kitB t "bool" = some d) (h3 : (c && !d) = false) : Ev ta σ G L (RO K) none := h.imp fun G v r => ⟨t, c, d, r, h1, h2, h3⟩
theorem ev_tyC {σ : L2.St} {G L : Hp} {v : V} {t : String} (h : ∀ G, TyX K G v (.type t)) : Ev (tC v) σ G L (RTy K t) () := ev_c h
theorem ev_tyD {σ : L2.St} {G L : Hp} : Ev tDNewK σ G L (RTy K "dict") () := fun G1 F H s c A Q q p hp => q _ _ _ (same_new (A.nG hp)) (A.new hp) (.base (.dK upd_same))
theorem ev_tyT {α : Type} {R : Rel α} {σ : L2.St} {G L : Hp} {ta : TE} {xs : List α} (h : Ev ta σ G L (RT K R) xs) : Ev ta σ G L (RTy K "tuple") () := h.imp fun _ _ ⟨x, vs, e, hq, _⟩ => by rw [e]; exact tyx_tup hq
theorem ev_tyL {α : Type} {R : Rel α} {σ : L2.St} {G L : Hp} {ta : TE} {xs : List α} (h : Ev ta σ G L (RL K R) xs) : Ev ta σ G L (RTy K "list") () := h.imp fun _ _ ⟨x, vs, e, hq, _⟩ => by rw [e]; exact tyx_lst hq

/-! _law_odd -/
-- 0 _law_purse_here; cells 
abbrev sLOdd : Stmt := top 68
abbrev nLOdd : List Str := ["_law_purse_here"]
abbrev pLOdd : List Str := ["_law_purse_here"]
theorem scLOdd : FnScope nLOdd pLOdd (defScope sLOdd) := ⟨rfl, rfl, rfl, by decide +kernel, rfl, by decide +kernel, by decide +kernel⟩
def spLOdd (K : Fg) (a : Adr) : Sp := SpQ (ι := Unit) K (fun _ G ws => ws = []) (fun _ G v => ∃ x, RO K G v x ∧ (x = none ∨ x = some (10 ^ 11)))
theorem ok_LOdd (T : Txt K mg a) (h : Has K mg "_law_odd" sLOdd pLOdd) (G__law_one : Fd P w K mg base CX0 "_law_one" pLOne 2 (spLOne K a)) (G__law_deep : Fd P w K mg base CX0 "_law_deep" pLDeep 1 (spLDeep K a)) : Fd P w K mg base CX0 "_law_odd" pLOdd 3 (spLOdd K a) := by
  refine h.ok scLOdd (fun vs H Q E h => ?_) (fun f cdv A outer s H vs Q E hr h => ?_)
  · obtain ⟨i, G, F, b, ps, ws, rfl, _, _, _, rfl, _⟩ := h
    rfl
  · obtain ⟨⟨⟩, G, F, b, ps, ws, rfl, nb, pk, hA, rfl, k⟩ := h
    have nd := scLOdd.nd
    refine ⟨_, (pss_one (ps_ret (pe_fd G__law_one (hr.mono (by decide)) (by rfl) (pa_cons (pv 0) (pa_cons (pe_lst (pa_cons pe_non (pa_cons pe_bl (pa_cons pe_bl (pa_cons pe_str (pa_cons pe_str (pa_cons (pe_lst pa_nil) (pa_cons pe_dnewK (pa_cons (pe_tup (pa_cons pe_non pa_nil)) (pa_cons (pe_tup (pa_cons pe_str pa_nil)) (pa_cons (pe_tup (pa_cons pe_bl pa_nil)) (pa_cons (pe_fd G__law_deep (hr.mono (by decide)) (by rfl) (pa_cons pe_int pa_nil)) (pa_cons (pe_op op_pow pe_int pe_int) pa_nil))))))))))))) pa_nil))))), ?_⟩
    have eT : ∀ {α : Type} {R : Rel α} {σ : L2.St} {G L : Hp} {ta : TE} {xs : List α}, Ev ta σ G L (RT K R) xs → Ev ta σ G L (RO K) none := fun h => ev_roT (c := false) (d := false) (ev_tyT h) (by decide +kernel) (by decide +kernel) rfl
    have eS : ∀ {σ : L2.St} {G L : Hp} {x : Str}, Ev (tC (.str x)) σ G L (RO K) none := fun {σ G L x} => ev_roT (c := false) (d := false) (ev_tyC (t := "str") fun _ => .base (.str x)) (by decide +kernel) (by decide +kernel) rfl
    have eB : ∀ {σ : L2.St} {G L : Hp} {x : Bool}, Ev (tC (.bl x)) σ G L (RO K) none := fun {σ G L x} => ev_roT (ev_tyC (t := "bool") fun _ => .base (.bl x)) (c := true) (d := true) (by decide +kernel) (by decide +kernel) rfl
    have eN : ∀ {σ : L2.St} {G L : Hp}, Ev (tC .non) σ G L (RO K) none := fun {σ G L} => ev_roT (c := false) (d := false) (ev_tyC (t := "NoneType") fun _ => .base .non) (by decide +kernel) (by decide +kernel) rfl
    refine s_retP (L := no) hA no_sub nb pk (ep_callQ (post := fun xs G v => ∃ x, x ∈ xs ∧ RO K G v x) rfl [none, none, none, none, none, none, none, none, none, none, none, some (10 ^ 11)] (ea1 (EvF.ev (R := RO K) (ef_lst (ea_consR eN (ea_consR eB (ea_consR eB (ea_consR eS (ea_consR eS (ea_consR (ev_roT (c := false) (d := false) (ev_tyL (EvF.ev (R := RX) ef_nil)) (by decide +kernel) (by decide +kernel) rfl) (ea_consR (ev_roT (c := false) (d := false) ev_tyD (by decide +kernel) (by decide +kernel) rfl)
      (ea_consR (eT (R := RX) (xs := [.non]) (ev_tup (ea_consR (ev_c fun _ => rfl) ea_nilR) (by simp))) (ea_consR (eT (R := RX) (xs := [.str "0"]) (ev_tup (ea_consR (ev_c fun _ => rfl) ea_nilR) (by simp))) (ea_consR (eT (R := RX) (xs := [.bl true]) (ev_tup (ea_consR (ev_c fun _ => rfl) ea_nilR) (by simp))) (ea_consR (ev_roT (c := false) (d := false) (ev_call (R := RTy K "tuple") (x := ()) 38 (ea1 ((ev_i (n := 38)).inn (n := 38) rfl)) (fun G' vs s ⟨v, e, q⟩ => ⟨v, e, q, by decide⟩) fun _ _ _ q => q) (by decide +kernel) (by decide +kernel) rfl) (ea_consR (Ev.ro (ev_pow (n := 11) ev_i ev_i (by decide) (by decide))) ea_nilR)))))))))))) (by simp))))
      fun G' vs s ⟨v, e, q⟩ => ⟨v, e, q, by simp, by simp⟩) fun v G1 ps1 H1 s1 p1 A1 ⟨x, hx, r⟩ => ?_
    refine k v G1 ps1 H1 s1 p1 A1 ⟨x, r, ?_⟩
    simp at hx
    exact hx
end
end MW

set_option Elab.async false
set_option linter.all false
set_option maxRecDepth 100000
set_option maxHeartbeats 4000000
/-! Walks: the law's web. -/
namespace MW
open PySem PySem.Spec PyProof.Rows L2
theorem pu_new {F : Hp} {b l : Addr} {ps : List V} {o : HO} (h : l ≠ b) : upd (pu F b ps) l o = pu (upd F l o) b ps := upd_comm (Ne.symm h)
theorem pu_set {F : Hp} {b l : Addr} {ps : List V} {o u : HO} (h : l ≠ b) : upd (pu (upd F l o) b ps) l u = pu (upd F l u) b ps := by rw [upd_comm (Ne.symm h), upd_upd]
theorem pu_at {F : Hp} {b l : Addr} {ps : List V} {o : HO} (h : l ≠ b) : pu (upd F l o) b ps l = some o := by rw [pu_ne h, upd_same]
theorem pu_lb {F : Hp} {b l : Addr} {ps : List V} (h : pu F b ps l = none) : l ≠ b := fun z => by rw [z] at h; exact absurd h (by rw [show pu F b ps b = some (.lst ps) from upd_same]; simp)
section
variable {P : Program} {w : World} {K : Fg} {mg : Str → Option Value} {base : Heap} {a : Adr}

/-! _law_turning_web -/
-- 0 _law_purse_here 1 _law_many 2 _law_some 3 _law_arrow 4 _law_one_here 5 _law_other 6 _law_last 7 _law_places 8 _law_place 9 _law_a 10 _law_b; cells _law_last _law_place
abbrev sLTurningWeb : Stmt := top 66
abbrev nLTurningWeb : List Str := ["_law_purse_here", "_law_many", "_law_some", "_law_arrow", "_law_one_here", "_law_other", "_law_last", "_law_places", "_law_place", "_law_a", "_law_b"]
abbrev pLTurningWeb : List Str := ["_law_purse_here"]
theorem scLTurningWeb : FnScope nLTurningWeb pLTurningWeb (defScope sLTurningWeb) := ⟨rfl, rfl, rfl, by decide +kernel, rfl, by decide +kernel, by decide +kernel⟩
def spLTurningWeb (K : Fg) (a : Adr) : Sp := SpQ (ι := Unit) K (fun _ G ws => ws = []) (fun _ G v => ∃ d : WebD, okWeb d ∧ d.many ≤ 5 ∧ R3 K RN (RT K (RP K RN RN)) (RL K RN) G v (d.many, d.arrows, (List.range d.many).filter (isT d)))
theorem ok_LTurningWeb (T : Txt K mg a) (h : Has K mg "_law_turning_web" sLTurningWeb pLTurningWeb) (G__law_part : Fd P w K mg base CX0 "_law_part" pLPart 1 (spLPart K a)) : Fd P w K mg base CX0 "_law_turning_web" pLTurningWeb 2 (spLTurningWeb K a) := by
  refine h.ok scLTurningWeb (fun vs H Q E h => ?_) (fun f cdv A outer s H vs Q E hr h => ?_)
  · obtain ⟨i, G, F, b, ps, ws, rfl, _, _, _, rfl, _⟩ := h
    rfl
  · obtain ⟨⟨⟩, G, F, b, ps, ws, rfl, nb, pk, hA, rfl, k⟩ := h
    have nd := scLTurningWeb.nd
    refine ⟨_, (pss_cons (ps_set (i := 1) nd rfl (Or.inl rfl) (pe_op op_add pe_int (pe_fd G__law_part (hr.mono (by decide)) (by rfl) (pa_cons (pv 0) (pa_cons pe_int pa_nil)))))
      (pss_cons (ps_set (i := 2) nd rfl (Or.inl rfl) (pe_lst pa_nil))
      (pss_cons (ps_for PassesOwn.never rfl (pi_range1 (by rfl) T.brange (pa_cons (pe_fd G__law_part (hr.mono (by decide)) (by rfl) (pa_cons (pv 0) (pa_cons (pe_op op_add (pv 1) pe_int) pa_nil))) pa_nil)) (pg_name (i := 3) nd rfl (by first | exact Or.inl rfl | exact Or.inr rfl))
        (pss_cons (ps_par (i := 4) (j := 5) rfl nd rfl rfl (by decide) rfl rfl (pa_cons (pe_fd G__law_part (hr.mono (by decide)) (by rfl) (pa_cons (pv 0) (pa_cons (pv 1) pa_nil))) (pa_cons (pe_fd G__law_part (hr.mono (by decide)) (by rfl) (pa_cons (pv 0) (pa_cons (pv 1) pa_nil))) pa_nil)) (by rfl))
        (pss_one (ps_expr (k_bm (K := K) rfl PySem.F.plainAttrs_list PySem.F.slot_list_append PySem.F.type_list_append mt_append (pv 2) (pa_cons (pe_tup (pa_cons (pv 4) (pa_cons (pv 5) pa_nil))) pa_nil))))))
      (pss_cons (ps_set (i := 6) nd rfl (Or.inr rfl) (pe_fd G__law_part (hr.mono (by decide)) (by rfl) (pa_cons (pv 0) (pa_cons (pv 1) pa_nil))))
      (pss_cons (ps_setLc (i := 2) (own := [("_law_a", 9), ("_law_b", 10)]) (g := (gTup K 2 (gCons (gName 9) (gCons (gName 10) gNil)))) (tt := _) rfl nd rfl rfl (sw_true rfl rfl rfl (by decide +kernel)) (k_seq (K := K) rfl (pv 2)) (blkOk_by (N := nLTurningWeb) (sc := defScope sLTurningWeb) (by decide +kernel)) (fun _ _ _ _ _ => (k_tup (K := K) rfl rfl (pgs_cons (pg_name (i := 9) nd rfl (by first | exact Or.inl rfl | exact Or.inr rfl)) (pgs_cons (pg_name (i := 10) nd rfl (by first | exact Or.inl rfl | exact Or.inr rfl)) pgs_nil)))) (fun _ _ _ _ _ => (pts_one (pt_cmpR (k_neD (K := K) rfl hr.units) (pe_tup (pa_cons (pv 9) (pa_cons (pv 10) pa_nil))) (pe_tup (pa_cons (pv 6) (pa_cons (pv 6) pa_nil))) (nomark _)))) (fun _ _ _ _ _ => (pe_ifExp (pt_cmpR op_ne (pv 9) (pv 6) (nomark _)) (pe_tup (pa_cons (pv 9) (pa_cons (pv 10) pa_nil))) (pe_tup (pa_cons (pv 10) (pa_cons (pv 9) pa_nil))))))
      (pss_cons (ps_set (i := 7) nd rfl (Or.inl rfl) (pe_lst pa_nil))
      (pss_cons (ps_for PassesOwn.never rfl (pi_range1 (by rfl) T.brange (pa_cons (pv 1) pa_nil)) (pg_name (i := 8) nd rfl (by first | exact Or.inl rfl | exact Or.inr rfl))
        (pss_one (ps_if (PW.pt (pw_or (pt_not (pt_val (pe_callB (k_any (K := K) rfl rfl) (by rfl) T.bany (by decide +kernel) (pa_cons (pe_lc (own := [("_law_a", 9), ("_law_b", 10)]) (g := (gTup K 2 (gCons (gName 9) (gCons (gName 10) gNil)))) (tt := tYes) rfl nd (k_seq (K := K) rfl (pv 2)) (blkOk_by (N := nLTurningWeb) (sc := defScope sLTurningWeb) (by decide +kernel)) (fun _ _ _ _ _ => (k_tup (K := K) rfl rfl (pgs_cons (pg_name (i := 9) nd rfl (by first | exact Or.inl rfl | exact Or.inr rfl)) (pgs_cons (pg_name (i := 10) nd rfl (by first | exact Or.inl rfl | exact Or.inr rfl)) pgs_nil)))) (fun _ _ _ _ _ => pts_nil) (fun _ _ _ _ _ => (pe_cmpR op_eq (pv 9) (pv 8) (nomark _)))) pa_nil)))) (pw_or1 (pt_not (pt_val (pe_callB (k_any (K := K) rfl rfl) (by rfl) T.bany (by decide +kernel) (pa_cons (pe_lc (own := [("_law_a", 9), ("_law_b", 10)]) (g := (gTup K 2 (gCons (gName 9) (gCons (gName 10) gNil)))) (tt := tYes) rfl nd (k_seq (K := K) rfl (pv 2)) (blkOk_by (N := nLTurningWeb) (sc := defScope sLTurningWeb) (by decide +kernel)) (fun _ _ _ _ _ => (k_tup (K := K) rfl rfl (pgs_cons (pg_name (i := 9) nd rfl (by first | exact Or.inl rfl | exact Or.inr rfl)) (pgs_cons (pg_name (i := 10) nd rfl (by first | exact Or.inl rfl | exact Or.inr rfl)) pgs_nil)))) (fun _ _ _ _ _ => pts_nil) (fun _ _ _ _ _ => (pe_cmpR op_eq (pv 10) (pv 8) (nomark _)))) pa_nil)))))))
          (pss_one (ps_expr (k_bm (K := K) rfl PySem.F.plainAttrs_list PySem.F.slot_list_append PySem.F.type_list_append mt_append (pv 7) (pa_cons (pv 8) pa_nil))))
          pss_nil)))
      (pss_one (ps_ret (pe_tup (pa_cons (pv 1) (pa_cons (pe_callTy (k_tuple (K := K) rfl) (by rfl) T.btuple (by decide +kernel) (pa_cons (pv 2) pa_nil)) (pa_cons (pv 7) pa_nil))))))))))))), ?_⟩
    refine s_asgP (L := no) (P := fun _ v => ∃ n : Nat, v = .int (n : Int) ∧ 1 ≤ n ∧ n ≤ 5) hA no_sub nb pk (ep_first (f := fun t => tOp (rI0 fun i j => .int (i + j)) (tC (.int 1)) t) (fun _ _ _ h => h) (ep_part (m := 5) rfl ((ev_i (n := 5)).inn (n := 5) rfl) (by decide) (by decide)) fun v G' s ⟨n, rn, hn⟩ => (Ev.ep (ev_add (ev_i (n := 1)) (ev_cR (R := RN) (x := n) rn).ni)).imp fun _ v r => ⟨n + 1, ?_, by omega, by omega⟩) fun v1 G1 ps1 H1 s1 p1 A1 ⟨many, e1, m1, m2⟩ => ?_
    · rw [show v = V.int (1 + (n : Int)) from r]
      congr 1
      omega
    subst e1
    refine s_asgF (L := no) A1 no_sub (R := RP K RN RN) (xs := []) ef_nil fun l vs G2 H2 s2 n1 n2 A2 q2 => ?_
    have lb := pu_lb n1
    have fl : F l = none := by rw [pu_ne lb] at n1; exact n1
    rw [pu_new lb] at A2
    have nb2 : ∀ {o}, upd F l o b = none := fun {o} => by rw [upd_ne (Ne.symm lb)]; exact nb
    have p2 := p1.mn s2
    refine nq ?_
    refine s_rngP (L := no) A2 no_sub nb2 p2 (ep_part (m := many + 3) rfl ((ev_add (ev_var (R := RN) (x := many) rfl rfl).ni (ev_i (n := 3))).inn (by omega)) (by omega) (by omega)) fun v3 G3 ps3 H3 s3 p3 A3 ⟨cnt, e3, hcnt⟩ => ?_
    cases e3
    refine s_for (L := no) (n := cnt) A3 no_sub (ei_rangeN (ev_c fun _ => rfl) (by omega)) (fun i σ G' F' => ∃ ps' vs xs u3 u4 u5, PuOk K G' ps' ∧ Same G3 G' ∧ σ = [some (.ref b), some (.int (many : Int)), some (.ref l), u3, u4, u5, none, none, none, none, none] ∧ F' = pu (upd F l (.lst vs)) b ps' ∧ Paired (RP K RN RN G') vs xs ∧ xs.length = i ∧ ∀ x ∈ xs, x.1 < many ∧ x.2 < many)
      (fun G' s => ⟨ps3, vs, [], none, none, none, p3.mn s, s, rfl, rfl, pairedS (s3.trans s) q2, rfl, fun x hx => nomatch hx⟩) (fun _ _ _ _ _ => no_sub) ?_ ?_
    · rintro G0 s0 i v σ' G' F' H' hi ⟨ps', vs, xs, u3, u4, u5, pk', s4, rfl, rfl, pp, hl, hx⟩ G'' s5 s6 A4 rfl
      refine s_par2P (L := no) A4 no_sub nb2 (pk'.mn s5) (fun _ _ _ _ h => h) (ep_part rfl (ev_var (R := RN) rfl rfl) (by omega) (by omega)) (ep_part rfl (ev_var (R := RN) rfl rfl) (by omega) (by omega)) fun w1 w2 G5 ps5 H5 s7 p5 A5 ⟨x1, e1, h1⟩ ⟨x2, e2, h2⟩ => ?_
      cases e1
      cases e2
      refine s_app (L := no) A5 no_sub rfl (pu_at lb) (R := RP K RN RN) (x := (x1, x2)) (ev_tup2 (ev_var (R := RN) rfl rfl) (ev_var (R := RN) rfl rfl)) (by rw [Paired.len pp, hl]; omega) fun vt G6 H6 s8 A6 r6 => ?_
      rw [pu_set lb] at A6
      have S := s5.trans (s7.trans s8)
      refine ⟨G6, _, s6.trans (s7.trans s8), A6, ps5, vs ++ [vt], xs ++ [(x1, x2)], some (V.int (i : Int)), some (V.int (x1 : Int)), some (V.int (x2 : Int)), p5.mn s8, s4.trans S, rfl, rfl, papp (pairedS S pp) (pone r6), by simp [hl], fun x hx' => ?_⟩
      rcases List.mem_append.mp hx' with h | h
      · exact hx x h
      · simp at h
        subst h
        exact ⟨h1, h2⟩
    · rintro σ' G4 F' H4 s4 A4 ⟨ps4, vs, xs, u3, u4, u5, pk4, s4', rfl, rfl, pp, hl, hx⟩
      refine s_asgP (L := no) A4 no_sub nb2 pk4 (ep_part rfl (ev_var (R := RN) rfl rfl) (by omega) (by omega)) fun v6 G5 ps5 H5 s5 p5 A5 ⟨last, e6, hlast⟩ => ?_
      cases e6
      refine nq ?_
      refine s_asg (L := pu (upd F l (.lst vs)) b ps5) A5 (Same.refl _) (R := RL K (RP K RN RN)) (x := (xs.filter fun x => !decide (x = (last, last))).map fun x => if x.1 = last then (x.2, x.1) else x) (EvF.ev (ef_lcPF (ei_seqM (k := 2) rfl (pu_at lb) (pairedS s5 pp)) (fun x => !decide (x = (last, last))) (fun x => if x.1 = last then (x.2, x.1) else x) (by omega) (fun x w1 w2 G' hx' s q1 q2 => et_test (ev_neD (R := RP K RN RN) (ev_tup2 (ev_var rfl q1) (ev_var rfl q2)) (ev_tup2 (ev_var (R := RN) (x := last) rfl rfl) (ev_var (R := RN) (x := last) rfl rfl)) (Nat.le_of_ble_eq_true rfl))) fun x w1 w2 G' hx' _ s q1 q2 => ?_)) fun v2 G6 H6 s6 A6 q6 => ?_
      · refine ev_if (b := !(x.1 == last)) (et_test ((ev_neI (i := (x.1 : Int)) (j := (last : Int)) (ev_var (R := RN) rfl q1).ni (ev_var (R := RN) rfl rfl).ni).is ?_)) (fun hb => ?_) fun hb => ?_
        · have := natEq x.1 last
          rw [← this]

        · have : ¬ x.1 = last := by simpa using hb
          rw [if_neg this]
          exact ev_tup2 (ev_var rfl q1) (ev_var rfl q2)
        · have : x.1 = last := by simpa using hb
          rw [if_pos this]
          exact ev_tup2 (ev_var rfl q2) (ev_var rfl q1)
      generalize hys : ((xs.filter fun x => !decide (x = (last, last))).map fun x => if x.1 = last then (x.2, x.1) else x) = ys at q6
      have hyl : ys.length ≤ 12 := by
        rw [← hys, List.length_map]
        have := List.length_filter_le (fun x => !decide (x = (last, last))) xs
        omega
      have hyb : ∀ y ∈ ys, y.1 < many ∧ y.2 < many := fun y hy => by
        rw [← hys] at hy
        obtain ⟨x, hx', e⟩ := List.mem_map.mp hy
        have := hx x (List.mem_filter.mp hx').1
        subst e
        split
        · exact ⟨this.2, this.1⟩
        · exact this
      rw [← pu_new lb] at A6
      have A7 := A6.gone (by rw [pu_ne lb]; exact fl)
      have p6 := p5.mn s6
      have okd : okWeb ⟨many, ys⟩ := ⟨m1, by dsimp only; omega, hyl, hyb⟩
      refine s_asgF (L := no) A7 no_sub (R := RN) (xs := []) ef_nil fun l' vs' G7 H7 s7 n3 n4 A8 q7 => ?_
      have lb' := pu_lb n3
      have fl' : F l' = none := by rw [pu_ne lb'] at n3; exact n3
      refine nq ?_
      refine s_for (L := no) (n := many) A8 no_sub (ei_rangeN (ev_var (R := RN) rfl rfl).ni (by omega)) (fun i σ G' F' => ∃ vs u8, Same G7 G' ∧ σ = [some (.ref b), some (.int (many : Int)), some v2, u3, u4, u5, some (.int (last : Int)), some (.ref l'), u8, none, none] ∧ F' = upd (pu F b ps5) l' (.lst vs) ∧ Paired (RN G') vs ((List.range i).filter (isT ⟨many, ys⟩)))
        (fun G' s => ⟨vs', none, s, rfl, rfl, pairedS s q7⟩) (fun _ _ _ _ _ => no_sub) ?_ ?_
      · rintro G0 s0 i v σ' G' F' H' hi ⟨vs, u8, s8, rfl, rfl, pp⟩ G'' s9 s10 A9 rfl
        have q6' := mn (s7.trans (s8.trans s9)) q6
        have hany : ∀ {g : Nat × Nat → Nat} {te : TE} {σ : L2.St}, True := trivial
        refine s_if (L := no) A9 no_sub (b := isT ⟨many, ys⟩ i) (EvT.is (et_or (a := !(ys.any fun p => p.1 == i)) (b := !(ys.any fun p => p.2 == i)) (et_not (et_B ((ev_any (EvF.ev (ef_lcP (T := RB) (ei_seqL (ev_var rfl q6')) (fun x => x.1 == i) (by omega) fun x w1 w2 G' hx' s q1 q2 => (ev_eqI (i := (x.1 : Int)) (j := (i : Int)) (ev_var (R := RN) rfl q1).ni (ev_var (R := RN) rfl rfl).ni).is (natEq _ _)))).is (by rw [List.any_map]; rfl)))) fun _ => et_not (et_B ((ev_any (EvF.ev (ef_lcP (T := RB) (ei_seqL (ev_var rfl q6')) (fun x => x.2 == i) (by omega) fun x w1 w2 G' hx' s q1 q2 => (ev_eqI (i := (x.2 : Int)) (j := (i : Int)) (ev_var (R := RN) rfl q2).ni (ev_var (R := RN) rfl rfl).ni).is (natEq _ _)))).is (by rw [List.any_map]; rfl)))) (isT_any ⟨many, ys⟩ i).symm) (fun hb G10 H10 s11 A10 => ?_) fun hb G10 H10 s11 A10 => ?_
        · refine s_app (L := no) A10 no_sub rfl upd_same (R := RN) (x := i) (ev_var rfl rfl) (by rw [Paired.len pp]; have := List.length_filter_le (isT ⟨many, ys⟩) (List.range i); rw [List.length_range] at this; omega) fun vt G11 H11 s12 A11 r11 => ?_
          rw [upd_upd] at A11
          refine ⟨G11, _, s10.trans (s11.trans s12), A11, vs ++ [vt], some (V.int (i : Int)), s8.trans (s9.trans (s11.trans s12)), rfl, rfl, ?_⟩
          rw [List.range_succ, List.filter_append, List.filter_cons, hb]
          exact papp (pairedS (s9.trans (s11.trans s12)) pp) (pone r11)
        · refine ⟨G10, _, s10.trans s11, A10, vs, some (V.int (i : Int)), s8.trans (s9.trans s11), rfl, rfl, ?_⟩
          rw [List.range_succ, List.filter_append, List.filter_cons, hb]
          simp only [Bool.false_eq_true, if_false, List.filter_nil, List.append_nil]
          exact pairedS (s9.trans s11) pp
      · rintro σ' G8 F' H8 s8 A9 ⟨vs, u8, s8', rfl, rfl, pp⟩
        have A10 := A9.freezeN n3
        have s9 : Same G8 (upd G8 l' (.lst vs)) := same_new (A9.d l' _ upd_same)
        have rl : RL K RN (upd G8 l' (.lst vs)) (.ref l') ((List.range many).filter (isT ⟨many, ys⟩)) := ⟨l', vs, rfl, .inl (.inl upd_same), pairedS s9 pp⟩
        refine s_ret (L := no) A10 no_sub (R := R3 K RN (RT K (RP K RN RN)) (RL K RN)) (x := (many, ys, (List.range many).filter (isT ⟨many, ys⟩))) (ev_tup3 (ev_var rfl rfl) (ev_tupL (ev_var rfl (mn (s7.trans (s8'.trans s9)) q6))) (ev_var rfl rl)) fun v G9 H9 s10 A11 q9 => ?_
        have S1 := s1.trans (s2.trans (s3.trans (s4.trans (s5.trans (s6.trans (s7.trans (s8.trans (s9.trans s10))))))))
        exact k v G9 ps5 H9 S1 (p6.mn (s7.trans (s8.trans (s9.trans s10)))) A11 ⟨⟨many, ys⟩, okd, m2, q9⟩
end
end MW

set_option Elab.async false
set_option linter.all false
set_option maxRecDepth 100000
set_option maxHeartbeats 4000000
/-! Walks: the law's own elimination. -/
namespace MW
open PySem PySem.Spec PyProof.Rows L2
/-! ### plain facts -/
theorem inv2 : ∀ k : Nat, k < 2 → 0 < k → ((List.range 2).filter fun (n : Nat) => decide (((n : Int) * (k : Int)) % 2 = 1))[0]? = some (invF 2 k).toNat ∧ 0 ≤ invF 2 k := by decide +kernel
theorem inv3 : ∀ k : Nat, k < 3 → 0 < k → ((List.range 3).filter fun (n : Nat) => decide (((n : Int) * (k : Int)) % 3 = 1))[0]? = some (invF 3 k).toNat ∧ 0 ≤ invF 3 k := by decide +kernel
theorem inv5 : ∀ k : Nat, k < 5 → 0 < k → ((List.range 5).filter fun (n : Nat) => decide (((n : Int) * (k : Int)) % 5 = 1))[0]? = some (invF 5 k).toNat ∧ 0 ≤ invF 5 k := by decide +kernel
theorem inv13 : ∀ k : Nat, k < 13 → 0 < k → ((List.range 13).filter fun (n : Nat) => decide (((n : Int) * (k : Int)) % 13 = 1))[0]? = some (invF 13 k).toNat ∧ 0 ≤ invF 13 k := by decide +kernel
theorem inv_first {p x : Int} (hp : P4 p) (h1 : 0 < x) (h2 : x < p) : ((List.range p.toNat).filter fun (n : Nat) => decide (((n : Int) * x) % p = 1))[0]? = some (invF p x).toNat ∧ 0 ≤ invF p x := by
  obtain ⟨k, rfl⟩ := Int.eq_ofNat_of_zero_le (show 0 ≤ x by omega)
  rcases hp with rfl | rfl | rfl | rfl
  · exact inv2 k (by omega) (by omega)
  · exact inv3 k (by omega) (by omega)
  · exact inv5 k (by omega) (by omega)
  · exact inv13 k (by omega) (by omega)
theorem find_filter {α : Type} (q : α → Bool) : ∀ (xs : List α) (j : Nat), xs.findIdx? q = some j → (xs.filter q)[0]? = xs[j]?
  | [], j, h => by simp at h
  | x :: xs, j, h => by
    rw [List.findIdx?_cons] at h
    rw [List.filter_cons]
    cases hq : q x
    · rw [hq] at h
      simp only [Bool.false_eq_true, if_false] at h ⊢
      cases hf : xs.findIdx? q with
      | none => rw [hf] at h; simp at h
      | some i =>
        rw [hf] at h
        simp at h
        subst h
        simpa using find_filter q xs i hf
    · rw [hq] at h
      simp at h
      subst h
      simp
theorem find_none {α : Type} (q : α → Bool) (xs : List α) (h : xs.findIdx? q = none) : xs.filter q = [] := by
  rw [List.filter_eq_nil_iff]
  intro x hx
  have := List.findIdx?_eq_none_iff.mp h x hx
  simp [this]
theorem red_nil (p : Int) (w : Nat) : (redS p w []).found = [] ∧ (redS p w []).places = [] := by
  have : ∀ n, (List.range n).foldl (stepR p) ⟨[], [], []⟩ = ⟨[], [], []⟩ := by
    intro n
    induction n with
    | zero => rfl
    | succ n ih => rw [List.range_succ, List.foldl_append, ih]; rfl
  unfold redS
  rw [this]
  exact ⟨rfl, rfl⟩
theorem map_mod {p : Int} {w : Nat} {r : List Int} (h : Wr p w r) : r.map (fun x => x % p) = r := by
  conv => rhs; rw [← List.map_id r]
  exact List.map_congr_left fun x hx => Int.emod_eq_of_lt (h.2 x hx).1 (h.2 x hx).2
section
variable {P : Program} {w : World} {K : Fg} {mg : Str → Option Value} {base : Heap} {a : Adr}

/-! _law_less -/
-- 0 _law_prime 1 _law_row 2 _law_number 3 _law_lead 4 _law_one_here 5 _law_other; cells _law_number _law_prime
abbrev sLLess : Stmt := top 58
abbrev nLLess : List Str := ["_law_prime", "_law_row", "_law_number", "_law_lead", "_law_one_here", "_law_other"]
abbrev pLLess : List Str := ["_law_prime", "_law_row", "_law_number", "_law_lead"]
theorem scLLess : FnScope nLLess pLLess (defScope sLLess) := ⟨rfl, rfl, rfl, by decide +kernel, rfl, by decide +kernel, by decide +kernel⟩
def spLLess (K : Fg) : Sp := SpF (ι := Int × List Int × Int × List Int) (fun i G vs => ∃ v1 v2 v3 v4, vs = [v1, v2, v3, v4] ∧ RI G v1 i.1 ∧ RL K RI G v2 i.2.1 ∧ RI G v3 i.2.2.1 ∧ RL K RI G v4 i.2.2.2 ∧ 0 < i.1 ∧ i.2.1.length = i.2.2.2.length ∧ i.2.1.length ≤ 1000 ∧ 0 ≤ i.2.2.1 ∧ i.2.2.1 < 1000) RI (fun i => lessR i.1 i.2.1 i.2.2.1 i.2.2.2)
theorem ok_LLess (T : Txt K mg a) (h : Has K mg "_law_less" sLLess pLLess) : Fd P w K mg base CX0 "_law_less" pLLess 1 (spLLess K) := by
  refine h.ok scLLess (fun vs H Q E h => ?_) (fun f cdv A outer s H vs Q E hr h => ?_)
  · obtain ⟨i, G, F, _, ⟨v1, v2, v3, v4, rfl, _⟩, _⟩ := h
    rfl
  · obtain ⟨⟨p, r, b, o⟩, G, F, hA, ⟨v1, v2, v3, v4, rfl, r1, r2, r3, r4, hp, hl, hn, hb, hb2⟩, k⟩ := h
    dsimp only at r1 r2 r3 r4 hp hl hn hb hb2
    cases r1
    cases r3
    have nd := scLLess.nd
    refine ⟨_, (pss_one (ps_ret (pe_lc (own := [("_law_one_here", 4), ("_law_other", 5)]) (g := (gTup K 2 (gCons (gName 4) (gCons (gName 5) gNil)))) (tt := tYes) rfl nd (k_zip (K := K) rfl (by rfl) T.bzip (pa_cons (pv 1) (pa_cons (pv 3) pa_nil))) (blkOk_by (N := nLLess) (sc := defScope sLLess) (by decide +kernel)) (fun _ _ _ _ _ => (k_tup (K := K) rfl rfl (pgs_cons (pg_name (i := 4) nd rfl (by first | exact Or.inl rfl | exact Or.inr rfl)) (pgs_cons (pg_name (i := 5) nd rfl (by first | exact Or.inl rfl | exact Or.inr rfl)) pgs_nil)))) (fun _ _ _ _ _ => pts_nil) (fun _ _ _ _ _ => (pe_op op_modN (pe_callTy call_int1 (by rfl) T.bint (by decide +kernel) (pa_cons (pe_op op_sub (pv 4) (pe_op op_mul (pv 2) (pv 5))) pa_nil)) (pv 0)))))), ?_⟩
    have hz : (r.zip o).length = r.length := by simp; omega
    have ez : (r.zip o).map (fun x => (x.1 - b * x.2) % p) = lessR p r b o := by
      unfold lessR
      refine List.ext_getElem (by simp) fun j h1 h2 => ?_
      simp
    refine s_retF (L := no) hA no_sub (R := RI) (xs := lessR p r b o) (ez ▸ ef_lcP (R := RI) (S := RI) (T := RI) (xs := r.zip o) ?_ (fun x => (x.1 - b * x.2) % p) (by omega) fun x w1 w2 G1 hx s1 q1 q2 => ev_mod (ev_int1 (ev_sub (ev_var rfl q1) (ev_mul (ev_var (R := RI) rfl rfl) (ev_var rfl q2) (.inl ⟨by omega, by omega⟩)))) (ev_var (R := RI) rfl rfl) hp) fun l vs G' H' s n1 n2 A q => k l vs G' H' s n1 n2 A q
    have q := ei_zipL (K := K) (n := (r.zip o).length) (ev_var (σ := start nLLess [V.int p, v2, V.int b, v4]) (L := no) (i := 1) rfl r2) (ev_var (i := 3) rfl r4) (by rw [hz, ← hl]; simp)
    intro G1 F1 H1 s c A R' kk
    refine q G1 F1 H1 s c A R' fun J G2 H2 s2 A2 ok => kk J G2 H2 s2 A2 ⟨ok.go, ok.stop, fun i H x H' G3 F' hi s3 s4 A3 y => ?_⟩
    obtain ⟨G4, s5, A4, x1, x2, e1, e2, r⟩ := ok.yld i H x H' G3 F' hi s3 s4 A3 y
    exact ⟨G4, s5, A4, (x1, x2), by rw [List.getElem?_zip_eq_some]; exact ⟨e1, e2⟩, r⟩
theorem ef_lless {σ : L2.St} {G L : Hp} {ta tb tc td : TE} {E : XK} {p b : Int} {r o : List Int} (h1 : Ev ta σ G L RI p) (h2 : Ev tb σ G L (RL K RI) r) (h3 : Ev tc σ G L RI b) (h4 : Ev td σ G L (RL K RI) o) (hp : 0 < p) (hl : r.length = o.length) (hn : r.length ≤ 1000) (hb : 0 ≤ b ∧ b < 1000) : EvF (tCall (spLLess K) [] E (tCons ta (tCons tb (tCons tc (tCons td tNil))))) σ G L RI (lessR p r b o) :=
  ef_call (f := fun (i : Int × List Int × Int × List Int) => lessR i.1 i.2.1 i.2.2.1 i.2.2.2) (p, r, b, o) (ea4 h1 h2 h3 h4) fun G' vs s ⟨z1, z2, z3, z4, e, q1, q2, q3, q4⟩ => ⟨z1, z2, z3, z4, e, q1, q2, q3, q4, hp, hl, hn, hb.1, hb.2⟩
theorem s_rng {α : Type} {R : Rel α} {x : α} {σ : L2.St} {G F H L : Hp} {te : TE} {D' : Ends} {g : TG} {tb' : TS} (A : At G F H) (c : Same L F) (h : Ev te σ G L R x) (k : ∀ v G' H', Same G G' → At G' F H' → R G' v x → tFor (iRng1 (tCons (tC v) tNil)) g tb' D' σ H') : tFor (iRng1 (tCons te tNil)) g tb' D' σ H :=
  h G F H (Same.refl _) c A _ fun v G2 H2 s2 A2 r2 => k v G2 H2 s2 A2 r2
/-- xs.remove(e) of data -/
theorem s_rem {α : Type} {R : Rel α} [D : Dat K R] [Mn R] {σ : L2.St} {G F H L : Hp} {te : TE} {D' : Ends} {l : Addr} {k j : Nat} {vs : List V} {xs : List α} {x : α} (A : At G F H) (c : Same L F) (hk : σ[k]? = some (some (.ref l))) (hl : F l = some (.lst vs)) (p : Paired (R G) vs xs) (h : Ev te σ G L R x) (hn : D.n < 64) (hj : xs[j]? = some x) (hno : ∀ m, m < j → xs[m]? ≠ some x)
    (kk : ∀ G' H', Same G G' → At G' (upd F l (.lst (vs.eraseIdx j))) H' → D'.nx σ H') : tDrop (tBM K "list" (rRemD K) (tVar k) (tCons te tNil)) D' σ H :=
  ⟨_, hk, .inl ⟨rfl, vs, .inl (.inl (A.f _ _ hl))⟩, h G F H (Same.refl _) c A _ fun v G2 H2 s A2 r => by
    have pp := pairedS s p
    have hd : DpAll K H2 vs (xs.map D.f) := by
      have q := dpAll (K := K) (R := R) pp
      have : ∀ {vs : List V} {ds : List PyData}, DpAll K G2 vs ds → DpAll K H2 vs ds := fun {vs ds} h => by
        induction h using DpAll.rec (motive_1 := fun _ _ _ => True) with
        | nil => exact .nil
        | cons h1 _ _ ih => exact .cons (datS A2.g _ _ h1) ih
        | _ => trivial
      exact this q
    refine ⟨l, vs, v, D.f x, xs.map D.f, j, D.f x, rfl, rfl, A2.f _ _ hl, hd, datS A2.g _ _ (D.dp r), ?_, D.sh (by omega) x, by rw [List.getElem?_map, hj]; rfl, (D.eq x x).mpr rfl, fun m z' hm hz => ?_, kk G2 _ s (A2.set hl)⟩
    · unfold SeqAt.shaped
      rw [show PyData.canLay0 (.list (xs.map D.f)) = true by rw [PyData.canLay0]; exact clAll xs, Bool.true_and]
      refine decide_eq_true ?_
      rw [PyData.depth]
      have := deAll (D := D) xs
      omega
    · rw [List.getElem?_map] at hz
      cases hx : xs[m]? with
      | none => rw [hx] at hz; cases hz
      | some y =>
        rw [hx] at hz
        cases hz
        cases e : PyData.eqv (D.f y) (D.f x) with
        | false => rfl
        | true =>
          have := (D.eq y x).mp e
          subst this
          exact absurd hx (hno m hm)⟩

/-! _law_spanned -/
-- 0 _law_prime 1 _law_rows_here 2 _law_found 3 _law_left 4 _law_place 5 _law_some 6 _law_lead 7 _law_by 8 _law_row 9 _law_number; cells _law_by _law_lead _law_place _law_prime
abbrev sLSpanned : Stmt := top 57
abbrev nLSpanned : List Str := ["_law_prime", "_law_rows_here", "_law_found", "_law_left", "_law_place", "_law_some", "_law_lead", "_law_by", "_law_row", "_law_number"]
abbrev pLSpanned : List Str := ["_law_prime", "_law_rows_here"]
theorem scLSpanned : FnScope nLSpanned pLSpanned (defScope sLSpanned) := ⟨rfl, rfl, rfl, by decide +kernel, rfl, by decide +kernel, by decide +kernel⟩
def spLSpanned (K : Fg) : Sp := SpP (ι := Int × Nat × List (List Int)) (fun i G vs => ∃ v1 v2, vs = [v1, v2] ∧ RI G v1 i.1 ∧ RL K (RL K RI) G v2 i.2.2 ∧ P4 i.1 ∧ (∀ r ∈ i.2.2, Wr i.1 i.2.1 r) ∧ i.2.1 ≤ 1000 ∧ i.2.2.length ≤ 1000) (fun i G v => RL K (RL K RI) G v (redS i.1 i.2.1 i.2.2).found)
theorem ok_LSpanned (T : Txt K mg a) (h : Has K mg "_law_spanned" sLSpanned pLSpanned) (G__law_less : Fd P w K mg base CX0 "_law_less" pLLess 1 (spLLess K)) : Fd P w K mg base CX0 "_law_spanned" pLSpanned 2 (spLSpanned K) := by
  refine h.ok scLSpanned (fun vs H Q E h => ?_) (fun f cdv A outer s H vs Q E hr h => ?_)
  · obtain ⟨i, G, F, _, ⟨v1, v2, rfl, _⟩, _⟩ := h
    rfl
  · obtain ⟨⟨p, wd, rows⟩, G, F, hA, ⟨v1, v2, rfl, r1, r2, p4, hrow, hwd, hn⟩, k⟩ := h
    dsimp only at r1 r2 p4 hrow hwd hn
    cases r1
    have nd := scLSpanned.nd
    refine ⟨_, (pss_cons (ps_par (i := 2) (j := 3) rfl nd rfl rfl (by decide) rfl rfl (pa_cons (pe_lst pa_nil) (pa_cons (pe_lc (own := [("_law_row", 8)]) (g := (gName 8)) (tt := tYes) rfl nd (k_seq (K := K) rfl (pv 1)) (blkOk_by (N := nLSpanned) (sc := defScope sLSpanned) (by decide +kernel)) (fun _ _ _ _ _ => (pg_name (i := 8) nd rfl (by first | exact Or.inl rfl | exact Or.inr rfl))) (fun _ _ _ _ _ => pts_nil) (fun _ _ _ _ _ => (pe_lc (own := [("_law_number", 9)]) (g := (gName 9)) (tt := tYes) rfl nd (k_seq (K := K) rfl (pv 8)) (blkOk_by (N := nLSpanned) (sc := (relS _ (defScope sLSpanned))) (by decide +kernel)) (fun _ _ _ _ _ => (pg_name (i := 9) nd rfl (by first | exact Or.inl rfl | exact Or.inr rfl))) (fun _ _ _ _ _ => pts_nil) (fun _ _ _ _ _ => (pe_op op_modN (pe_callTy call_int1 (by rfl) T.bint (by decide +kernel) (pa_cons (pv 9) pa_nil)) (pv 0)))))) pa_nil)) (by rfl))
      (pss_cons (ps_for PassesOwn.never rfl (pi_range1 (by rfl) T.brange (pa_cons (pe_ifExp (pt_cmpR op_gt (pe_callB (k_len (K := K) rfl) (by rfl) T.blen PySem.boot_len (pa_cons (pv 3) pa_nil)) pe_int (nomark _)) (pe_callB (k_len (K := K) rfl) (by rfl) T.blen PySem.boot_len (pa_cons (pe_ix (k_ix (K := K) rfl) (pv 3) pe_int (fun _ _ => rfl)) pa_nil)) pe_int) pa_nil)) (pg_name (i := 4) nd rfl (by first | exact Or.inl rfl | exact Or.inr rfl))
        (pss_cons (ps_setLc (i := 5) (own := [("_law_row", 8)]) (g := (gName 8)) (tt := _) rfl nd rfl rfl (sw_true rfl rfl rfl (by decide +kernel)) (k_seq (K := K) rfl (pv 3)) (blkOk_by (N := nLSpanned) (sc := defScope sLSpanned) (by decide +kernel)) (fun _ _ _ _ _ => (pg_name (i := 8) nd rfl (by first | exact Or.inl rfl | exact Or.inr rfl))) (fun _ _ _ _ _ => (pts_one (pt_cmpR op_gt (pe_ix (k_ix (K := K) rfl) (pv 8) (pv 4) (fun _ _ => rfl)) pe_int (nomark _)))) (fun _ _ _ _ _ => (pv 8)))
        (pss_one (ps_if (pt_cmpR op_gt (pe_callB (k_len (K := K) rfl) (by rfl) T.blen PySem.boot_len (pa_cons (pv 5) pa_nil)) pe_int (nomark _))
          (pss_cons (ps_set (i := 6) nd rfl (Or.inr rfl) (pe_ix (k_ix (K := K) rfl) (pv 5) pe_int (fun _ _ => rfl)))
          (pss_cons (ps_expr (k_bm (K := K) rfl PySem.F.plainAttrs_list PySem.F.slot_list_remove PySem.F.type_list_remove (k_removeD (K := K) rfl (hu65 hr)) (pv 3) (pa_cons (pv 6) pa_nil)))
          (pss_cons (ps_set (i := 7) nd rfl (Or.inr rfl) (pe_ix (k_ix (K := K) rfl) (pe_lc (own := [("_law_number", 9)]) (g := (gName 9)) (tt := _) rfl nd (pi_range1 (by rfl) T.brange (pa_cons (pv 0) pa_nil)) (blkOk_by (N := nLSpanned) (sc := defScope sLSpanned) (by decide +kernel)) (fun _ _ _ _ _ => (pg_name (i := 9) nd rfl (by first | exact Or.inl rfl | exact Or.inr rfl))) (fun _ _ _ _ _ => (pts_one (pt_cmpR op_eq (pe_op op_modN (pe_callTy call_int1 (by rfl) T.bint (by decide +kernel) (pa_cons (pe_op op_mul (pv 9) (pe_ix (k_ix (K := K) rfl) (pv 6) (pv 4) (fun _ _ => rfl))) pa_nil)) (pv 0)) pe_int (nomark _)))) (fun _ _ _ _ _ => (pv 9))) pe_int (fun _ _ => rfl)))
          (pss_cons (ps_set (i := 6) nd rfl (Or.inr rfl) (pe_lc (own := [("_law_number", 9)]) (g := (gName 9)) (tt := tYes) rfl nd (k_seq (K := K) rfl (pv 6)) (blkOk_by (N := nLSpanned) (sc := defScope sLSpanned) (by decide +kernel)) (fun _ _ _ _ _ => (pg_name (i := 9) nd rfl (by first | exact Or.inl rfl | exact Or.inr rfl))) (fun _ _ _ _ _ => pts_nil) (fun _ _ _ _ _ => (pe_op op_modN (pe_callTy call_int1 (by rfl) T.bint (by decide +kernel) (pa_cons (pe_op op_mul (pv 9) (pv 7)) pa_nil)) (pv 0)))))
          (pss_cons (ps_setLc (i := 3) (own := [("_law_row", 8)]) (g := (gName 8)) (tt := tYes) rfl nd rfl rfl (sw_true rfl rfl rfl (by decide +kernel)) (k_seq (K := K) rfl (pv 3)) (blkOk_by (N := nLSpanned) (sc := defScope sLSpanned) (by decide +kernel)) (fun _ _ _ _ _ => (pg_name (i := 8) nd rfl (by first | exact Or.inl rfl | exact Or.inr rfl))) (fun _ _ _ _ _ => pts_nil) (fun _ _ _ _ _ => (pe_fd G__law_less (hr.mono (by decide)) (by rfl) (pa_cons (pv 0) (pa_cons (pv 8) (pa_cons (pe_ix (k_ix (K := K) rfl) (pv 8) (pv 4) (fun _ _ => rfl)) (pa_cons (pv 6) pa_nil)))))))
          (pss_one (ps_set (i := 2) nd rfl (Or.inl rfl) (pe_op op_cat (pe_lc (own := [("_law_row", 8)]) (g := (gName 8)) (tt := tYes) rfl nd (k_seq (K := K) rfl (pv 2)) (blkOk_by (N := nLSpanned) (sc := defScope sLSpanned) (by decide +kernel)) (fun _ _ _ _ _ => (pg_name (i := 8) nd rfl (by first | exact Or.inl rfl | exact Or.inr rfl))) (fun _ _ _ _ _ => pts_nil) (fun _ _ _ _ _ => (pe_fd G__law_less (hr.mono (by decide)) (by rfl) (pa_cons (pv 0) (pa_cons (pv 8) (pa_cons (pe_ix (k_ix (K := K) rfl) (pv 8) (pv 4) (fun _ _ => rfl)) (pa_cons (pv 6) pa_nil))))))) (pe_lst (pa_cons (pv 6) pa_nil))))))))))
          pss_nil))))
      (pss_one (ps_ret (pv 2))))), ?_⟩
    have hp := p4.fp
    have p1 := hp.pos
    have p2 := hp.small
    have erows : rows.map (fun r => r.map fun x => x % p) = rows := by
      conv => rhs; rw [← List.map_id rows]
      exact List.map_congr_left fun r hr => map_mod (hrow r hr)
    refine s_parF (L := no) hA no_sub (R := RL K RI) (S := RL K RI) (xs := []) (ys := rows) ef_nil (erows ▸ ef_lcX (R := RL K RI) (S := RL K RI) (ei_seqL (ev_var rfl r2)) (fun r => r.map fun x => x % p) (by omega) fun r u G2 hr' s2 q2 => EvF.ev (ef_lcX (R := RI) (S := RI) (ei_seqL (ev_var rfl q2)) (fun x => x % p) (by rw [(hrow r hr').1]; omega) fun x u' G3 hx s3 q3 => ev_mod (ev_int1 (ev_var rfl q3)) (ev_var (R := RI) rfl rfl) (by omega))) fun l2 vs2 l vs G1 H1 s1 n3 n1 ml n5 n6 A1 q2 q1 => ?_
    cases q2
    have e1 : upd (upd F l2 (.lst [])) l (.lst vs) = upd (upd F l (.lst vs)) l2 (.lst []) := upd_comm (Ne.symm ml)
    rw [e1] at A1
    have A3 := A1.freezeN (by rw [upd_ne (Ne.symm ml)]; exact n3)
    have s3 : Same G1 (upd G1 l2 (.lst [])) := same_new n5
    let st := fun i => (List.range i).foldl (stepR p) ⟨rows, [], []⟩
    have hst : ∀ i, st (i + 1) = stepR p (st i) i := fun i => by
      show (List.range (i + 1)).foldl (stepR p) ⟨rows, [], []⟩ = _
      rw [List.range_succ, List.foldl_append]
      rfl
    -- how many columns
    have hcols : ∃ n : Nat, (if 0 < rows.length then (ro rows 0).length else 0) = n ∧ n ≤ wd ∧ (redS p wd rows).found = (st n).found := by
      cases rows with
      | nil => exact ⟨0, rfl, Nat.zero_le _, (red_nil p wd).1⟩
      | cons r rs => exact ⟨wd, by rw [if_pos (by simp)]; exact (hrow r List.mem_cons_self).1, Nat.le_refl _, rfl⟩
    obtain ⟨nc, hnc, hncw, hred⟩ := hcols
    have hL : (upd F l (.lst vs)) l = some (.lst vs) := upd_same
    refine nq ?_
    refine s_rng (L := upd F l (.lst vs)) A3 (Same.refl _) (Ev.is (ev_if (R := RI) (x := ((if 0 < rows.length then (ro rows 0).length else 0 : Nat) : Int)) (b := decide ((0 : Int) < (rows.length : Int))) (et_test (ev_cmp (f := fun i j => decide (j < i)) ((ev_lenM (K := K) (k := 3) rfl hL).is (by rw [Paired.len q1])) (ev_i (n := 0)))) (fun hb => ?_) fun hb => ?_) (by rw [hnc])) fun v4 G2 H2 s2 A2 r4 => ?_
    · have : 0 < rows.length := by have := of_decide_eq_true hb; omega
      rw [if_pos this]
      exact ev_lenL (ev_ixM (n := 0) rfl hL (pairedS s3 q1) (ev_i (n := 0)) rfl (x := ro rows 0) (by rw [ro_get this]; simp [this]))
    · have : ¬ 0 < rows.length := by have := of_decide_eq_false hb; omega
      rw [if_neg this]
      exact ev_i
    cases r4
    have S2 := s3.trans s2
    refine s_for (L := no) (n := nc) A2 no_sub (ei_rangeN (ev_c fun _ => rfl) (by omega))
      (fun i σ G' F' => Same G1 G' ∧ ∃ l vs fv u4 u5 u6 u7, σ = [some (.int p), some v2, some fv, some (.ref l), u4, u5, u6, u7, none, none] ∧ F' = upd F l (.lst vs) ∧ F l = none ∧ Paired (RL K RI G') vs (st i).left ∧ RL K (RL K RI) G' fv (st i).found)
      (fun G' s => ⟨S2.trans s, l, vs, .ref l2, none, none, none, none, rfl, rfl, n1, pairedS (S2.trans s) q1, ⟨l2, [], rfl, .inl (.inl ((s2.trans s) _ _ upd_same)), .nil⟩⟩)
      (fun _ _ _ _ _ => no_sub) ?_ ?_
    · rintro G0 s0 c v σ' G' F' H' hc ⟨s4, l, vs, fv, u4, u5, u6, u7, rfl, rfl, nl, q1, q2⟩ G'' s5 s6 A4 rfl
      have gd := Good.run hp hrow c (by omega)
      have hc' : c < wd := by omega
      rw [show (List.range c).foldl (stepR p) ⟨rows, [], []⟩ = st c from rfl] at gd
      have hleft := Paired.len q1
      have q1' := pairedS s5 q1
      have cnt := gd.cnt
      have hLl : (upd F l (.lst vs)) l = some (.lst vs) := upd_same
      have hpos : ∀ r ∈ (st c).left, decide (0 < ix r c) = (ix r c != 0) := fun r hr => by
        have := (gd.wl r hr).at (by omega) c
        by_cases h : ix r c = 0
        · rw [h]; rfl
        · have : 0 < ix r c := by omega
          simp [h, this]
      refine s_asg (L := upd F l (.lst vs)) A4 (Same.refl _) (R := RL K (RL K RI)) (x := (st c).left.filter fun r => ix r c != 0) (Ev.is (EvF.ev (ef_lcXF (R := RL K RI) (S := RL K RI) (ei_seqM (k := 3) rfl hLl q1') (fun r => ix r c != 0) (fun r => r) (by omega) (fun r u G6 hr' s8 q8 => ?_) fun r u G6 hr' _ s8 q8 => ev_var rfl q8)) (List.map_id' _)) fun v5 G5 H5 s7 A5 r5 => ?_
      · refine et_test ((ev_cmp (f := fun i j => decide (j < i)) (ev_ixL (n := c) (ev_var (R := RL K RI) rfl q8) (ev_var (R := RN) (x := c) rfl rfl).ni rfl (ix_some (by rw [(gd.wl _ hr').1]; exact hc'))) (ev_i (n := 0))).is ?_)
        exact hpos r hr'
      refine s_if (L := upd F l (.lst vs)) A5 (Same.refl _) (b := decide ((0 : Int) < (((st c).left.filter fun r => ix r c != 0).length : Int))) (et_test (ev_cmp (f := fun i j => decide (j < i)) (ev_lenL (ev_var rfl r5)) (ev_i (n := 0)))) (fun hb G6 H6 s8 A6 => ?_) fun hb G6 H6 s8 A6 => ?_
      · cases hf : (st c).left.findIdx? (fun r => ix r c != 0) with
        | none =>
          rw [find_none _ _ hf] at hb
          simp at hb
        | some j =>
          have hfirst := find_filter _ _ _ hf
          obtain ⟨hj, hjz, hbefore⟩ := List.findIdx?_eq_some_iff_getElem.mp hf
          have hstep : st (c + 1) = nxR p (st c) c j := by rw [hst]; unfold stepR; rw [hf]
          have wL := gd.wl _ (ro_mem hj)
          have bd := wL.at (by omega) c
          have hjz' : ix (ro (st c).left j) c ≠ 0 := by rw [ro_get hj]; simpa using hjz
          have hget : (st c).left[j]? = some (ro (st c).left j) := by rw [ro_get hj]; simp [hj]
          rw [hget] at hfirst
          have hnew : newR p (st c).left c j = sclR p (ix (ro (st c).left j) c) (ro (st c).left j) := rfl
          generalize hrow' : ro (st c).left j = rw0 at wL bd hjz' hget hfirst hnew
          refine s_asg (L := no) A6 no_sub (R := RL K RI) (x := rw0) (ev_ixL (n := 0) (ev_var rfl (mn s8 r5)) (ev_i (n := 0)) rfl hfirst) fun v6 G7 H7 s9 A7 r6 => ?_
          have S7 := s7.trans (s8.trans s9)
          refine s_rem (L := no) A7 no_sub rfl upd_same (pairedS S7 q1') (ev_var (R := RL K RI) rfl r6) (Nat.le_of_ble_eq_true rfl) hget (fun m hm hx => ?_) fun G8 H8 s10 A8 => ?_
          · have hml : m < (st c).left.length := by omega
            have := hbefore m hm
            have e : (st c).left[m] = rw0 := by
              have := List.getElem?_eq_getElem hml
              rw [this] at hx
              exact Option.some.inj hx
            rw [e] at this
            simp [hjz'] at this
          rw [upd_upd] at A8
          have q1e : Paired (RL K RI G8) (vs.eraseIdx j) ((st c).left.eraseIdx j) := perase j (pairedS (S7.trans s10) q1')
          have memE : ∀ r ∈ (st c).left.eraseIdx j, Wr p wd r := fun r hr => gd.wl r (List.mem_of_mem_eraseIdx hr)
          have lenE : ((st c).left.eraseIdx j).length ≤ 1000 := Nat.le_trans (List.length_eraseIdx_le _ _) (by omega)
          obtain ⟨if1, if2⟩ := inv_first p4 (x := ix rw0 c) (by omega) (by omega)
          refine nq ?_
          refine s_asg (L := no) A8 no_sub (R := RN) (x := (invF p (ix rw0 c)).toNat) (ev_ixL (n := 0) (xs := (List.range p.toNat).filter fun (n : Nat) => decide (((n : Int) * ix rw0 c) % p = 1)) (Ev.is (EvF.ev (ef_lcRF (S := RN) ((ev_var (R := RI) (x := p) rfl rfl).inn (by omega)) (by omega) (fun n => decide (((n : Int) * ix rw0 c) % p = 1)) (fun n => n) (fun n u G9 hn s11 q11 => ?_) fun n u G9 hn _ s11 q11 => ev_var rfl q11)) (List.map_id' _)) (ev_i (n := 0)) rfl if1) fun v7 G9 H9 s11 A9 r7 => ?_
          · exact et_test (ev_eqI (ev_mod (ev_int1 (ev_mul (ev_var (R := RN) rfl q11).ni (ev_ixL (n := c) (ev_var (R := RL K RI) rfl (mn (s10.trans s11) r6)) (ev_var (R := RN) (x := c) rfl rfl).ni rfl (ix_some (by rw [wL.1]; exact hc'))) (.inr ⟨by omega, by omega⟩))) (ev_var (R := RI) rfl rfl) (by omega)) (ev_i (n := 1)))
          cases r7
          rw [Int.toNat_of_nonneg if2]
          have S9 := s10.trans s11
          refine s_asg (L := no) A9 no_sub (R := RL K RI) (x := sclR p (ix rw0 c) rw0) (EvF.ev (ef_lcX (R := RI) (S := RI) (ei_seqL (ev_var rfl (mn S9 r6))) (fun x => x * invF p (ix rw0 c) % p) (by rw [wL.1]; omega) fun x u G10 hx s12 q12 => ev_mod (ev_int1 (ev_mul (ev_var rfl q12) (ev_var (R := RI) rfl rfl) (.inl ⟨by have := wL.2 x hx; omega, by have := wL.2 x hx; omega⟩))) (ev_var (R := RI) rfl rfl) (by omega))) fun v8 G10 H10 s12 A10 r8 => ?_
          have wN : Wr p wd (sclR p (ix rw0 c) rw0) := wr_scl (by omega) wL.1
          refine s_asgF (L := upd F l (.lst (vs.eraseIdx j))) A10 (Same.refl _) (R := RL K RI) (xs := clrR p c (sclR p (ix rw0 c) rw0) ((st c).left.eraseIdx j)) (ef_lcX (R := RL K RI) (S := RL K RI) (ei_seqM (k := 3) rfl upd_same (pairedS (s11.trans s12) q1e)) (fun o => lessR p o (ix o c) (sclR p (ix rw0 c) rw0)) (by omega) fun o u G11 ho s13 q13 => EvF.ev (ef_lless (ev_var (R := RI) rfl rfl) (ev_var rfl q13) (ev_ixL (n := c) (ev_var (R := RL K RI) rfl q13) (ev_var (R := RN) (x := c) rfl rfl).ni rfl (ix_some (by rw [(memE o ho).1]; exact hc'))) (ev_var rfl (mn s13 r8)) (by omega) (by rw [(memE o ho).1, wN.1]) (by rw [(memE o ho).1]; omega) (by have := (memE o ho).at (by omega) c; omega))) fun l3 vs3 G11 H11 s13 n7 n8 A11 q13 => ?_
          have l3l : l3 ≠ l := fun z => by rw [z, upd_same] at n7; cases n7
          have nl3 : F l3 = none := by rw [upd_ne l3l] at n7; exact n7
          rw [upd_comm (Ne.symm l3l)] at A11
          have A12 := A11.gone (by rw [upd_ne (Ne.symm l3l)]; exact nl)
          have fE : ∀ r ∈ (st c).found, Wr p wd r := gd.wf
          have S11 : Same G'' G11 := S7.trans (S9.trans (s12.trans s13))
          refine s_asg (L := no) A12 no_sub (R := RL K (RL K RI)) (x := clrR p c (sclR p (ix rw0 c) rw0) (st c).found ++ [sclR p (ix rw0 c) rw0]) (EvF.ev (ef_cat (ef_lcX (R := RL K RI) (S := RL K RI) (ei_seqL (ev_var rfl (mn (s5.trans S11) q2))) (fun o => lessR p o (ix o c) (sclR p (ix rw0 c) rw0)) (by omega) fun o u G12 ho s14 q14 => EvF.ev (ef_lless (ev_var (R := RI) rfl rfl) (ev_var rfl q14) (ev_ixL (n := c) (ev_var (R := RL K RI) rfl q14) (ev_var (R := RN) (x := c) rfl rfl).ni rfl (ix_some (by rw [(fE o ho).1]; exact hc'))) (ev_var rfl (mn (s13.trans s14) r8)) (by omega) (by rw [(fE o ho).1, wN.1]) (by rw [(fE o ho).1]; omega) (by have := (fE o ho).at (by omega) c; omega))) (ef_lst (ea_consR (ev_var rfl (mn s13 r8)) ea_nilR) (by simp)) (by simp [clrR]; omega))) fun v9 G12 H12 s14 A13 r9 => ?_
          have S12 : Same G'' G12 := S11.trans s14
          refine ⟨G12, _, s6.trans S12, A13, s4.trans (s5.trans S12), l3, vs3, v9, _, _, _, _, rfl, rfl, nl3, ?_, ?_⟩
          · rw [hstep]
            show Paired _ vs3 (clrR p c (newR p (st c).left c j) ((st c).left.eraseIdx j))
            rw [hnew]
            exact pairedS s14 q13
          · rw [hstep]
            show RL K (RL K RI) G12 v9 (clrR p c (newR p (st c).left c j) (st c).found ++ [newR p (st c).left c j])
            rw [hnew]
            exact r9
      · have hf : (st c).left.findIdx? (fun r => ix r c != 0) = none := by
          cases hf : (st c).left.findIdx? (fun r => ix r c != 0) with
          | none => rfl
          | some j =>
            have hfirst := find_filter _ _ _ hf
            have : ((st c).left.filter fun r => ix r c != 0).length = 0 := by
              have := of_decide_eq_false hb
              omega
            rw [List.eq_nil_of_length_eq_zero this] at hfirst
            obtain ⟨hj, _⟩ := List.findIdx?_eq_some_iff_getElem.mp hf
            simp [hj] at hfirst
        have hstep : st (c + 1) = st c := by rw [hst]; unfold stepR; rw [hf]
        have S2 : Same G'' G6 := s7.trans s8
        refine ⟨G6, _, s6.trans S2, A6, s4.trans (s5.trans S2), l, vs, fv, _, _, _, _, rfl, rfl, nl, ?_, ?_⟩
        · rw [hstep]; exact pairedS S2 q1'
        · rw [hstep]; exact mn (s5.trans S2) q2
    · rintro σ' G' F' H' s4 A4 ⟨s5, l, vs, fv, u4, u5, u6, u7, rfl, rfl, nl, q1, q2⟩
      refine s_ret (L := no) (A4.gone nl) no_sub (R := RL K (RL K RI)) (x := (redS p wd rows).found) (ev_var rfl (by rw [hred]; exact q2)) fun v G5 H5 s6 A5 q5 => ?_
      exact k v G5 H5 (s1.trans (s5.trans s6)) A5 q5
end
end MW

set_option Elab.async false
set_option linter.all false
set_option maxRecDepth 100000
set_option maxHeartbeats 4000000
/-! Walks: the law's kernel, its glued rows. -/
namespace MW
open PySem PySem.Spec PyProof.Rows L2
/-! ### plain facts -/
theorem lead_of {r : List Int} {q w : Nat} (h0 : ∀ i, i < q → ix r i = 0) (h1 : ix r q = 1) (hq : q < w) : ((List.range w).filter fun i => decide (0 < ix r i))[0]? = some q := by
  obtain ⟨k, rfl⟩ : ∃ k, w = q + (k + 1) := ⟨w - q - 1, by omega⟩
  rw [List.range_add, List.filter_append]
  have e : (List.range q).filter (fun i => decide (0 < ix r i)) = [] := by
    rw [List.filter_eq_nil_iff]
    intro i hi
    have := h0 i (List.mem_range.mp hi)
    simp [this]
  rw [e, List.nil_append, List.range_succ_eq_map, List.map_cons, List.filter_cons]
  simp [h1]
def leadR (w : Nat) (r : List Int) : Nat := ((List.range w).filter fun i => decide (0 < ix r i)).getD 0 0
theorem lead_at {p : Int} {w : Nat} {rows : List (List Int)} {st : RS} (gd : Good p w rows w st) {j : Nat} (hj : j < st.found.length) : ((List.range w).filter fun i => decide (0 < ix (ro st.found j) i))[0]? = some (st.places.getD j 0) := by
  have hl := gd.len
  refine lead_of (fun i hi => gd.fst j i hj hi) ?_ (gd.plt _ (getD_mem (by omega)))
  have := gd.del j j hj hj
  simpa using this
theorem leads {p : Int} {w : Nat} {rows : List (List Int)} {st : RS} (gd : Good p w rows w st) : st.found.map (leadR w) = st.places := by
  have hl := gd.len
  refine List.ext_getElem (by simp [hl]) fun j h1 h2 => ?_
  have hj : j < st.found.length := by omega
  have := lead_at gd hj
  rw [List.getElem_map]
  unfold leadR
  rw [← ro_get hj, List.getD, this]
  simp [List.getD, h2]
section
variable {α β γ : Type} {K : Fg} {σ : L2.St} {G F H L : Hp} {ta tb tc te : TE} {tt : TT} {D : Ends} {R : Rel α} {S : Rel β} {U : Rel γ} {x : α} {y : β} {z : γ}
theorem ef_if {b : Bool} {xs : List α} (h : EvT tt σ G L b) (h1 : b = true → EvF ta σ G L R xs) (h2 : b = false → EvF tb σ G L R xs) : EvF (tIf tt ta tb) σ G L R xs := fun G1 F H s c A Q q =>
  h G1 F H s c A _ fun G2 H2 s2 A2 => by
    cases b with
    | true =>
      show ta σ H2 Q
      exact h1 rfl G2 F H2 (s.trans s2) c A2 Q fun D vs G3 H3 s3 n1 n2 A3 r3 => q D vs G3 H3 (s2.trans s3) n1 n2 A3 r3
    | false =>
      show tb σ H2 Q
      exact h2 rfl G2 F H2 (s.trans s2) c A2 Q fun D vs G3 H3 s3 n1 n2 A3 r3 => q D vs G3 H3 (s2.trans s3) n1 n2 A3 r3
/-- xs.extend(e), e a new list -/
theorem s_ext {l : Addr} {k : Nat} {vs : List V} {xs : List α} (A : At G F H) (c : Same L F) (hk : σ[k]? = some (some (.ref l))) (hl : F l = some (.lst vs)) (h : EvF te σ G L R xs) (hz : vs.length + xs.length ≤ 1000000)
    (kk : ∀ ws G' H', Same G G' → At G' (upd F l (.lst (vs ++ ws))) H' → Paired (R G') ws xs → D.nx σ H') : tDrop (tBM K "list" rExtend (tVar k) (tCons te tNil)) D σ H :=
  ⟨_, hk, .inl ⟨rfl, vs, .inl (.inl (A.f _ _ hl))⟩, h G F H (Same.refl _) c A _ fun m ws G2 H2 s n1 n2 A2 r => by
    have nl : l ≠ m := fun z => by rw [z, n1] at hl; cases hl
    have hl2 : upd F m (.lst ws) l = some (.lst vs) := by rw [upd_ne nl]; exact hl
    refine ⟨l, m, vs, ws, rfl, rfl, A2.f _ _ hl2, A2.f _ _ upd_same, by rw [Paired.len r, sizeLine_eq]; omega, ?_⟩
    have A3 := A2.set (o := .lst (vs ++ ws)) hl2
    rw [upd_comm (Ne.symm nl)] at A3
    exact kk ws G2 _ s (A3.gone (by rw [upd_ne (Ne.symm nl)]; exact n1)) r⟩
theorem s_par2 {i j : Nat} [Mn R] [Mn S] (A : At G F H) (c : Same L F) (h1 : Ev ta σ G L R x) (h2 : Ev tb σ G L S y) (k : ∀ v w G' H', Same G G' → At G' F H' → R G' v x → S G' w y → D.nx ((σ.set i (some v)).set j (some w)) H') : tPar i j (tCons ta (tCons tb tNil)) D σ H :=
  ea2 h1 h2 G F H (Same.refl _) c A _ fun vs G2 H2 s A2 ⟨v, w, e, r1, r2⟩ => ⟨v, w, e, k v w G2 H2 s A2 r1 r2⟩
theorem s_par3 {i j l : Nat} [Mn R] [Mn S] [Mn U] (A : At G F H) (c : Same L F) (h1 : Ev ta σ G L R x) (h2 : Ev tb σ G L S y) (h3 : Ev tc σ G L U z) (k : ∀ v w u G' H', Same G G' → At G' F H' → R G' v x → S G' w y → U G' u z → D.nx (((σ.set i (some v)).set j (some w)).set l (some u)) H') : tPar3 i j l (tCons ta (tCons tb (tCons tc tNil))) D σ H :=
  ea3 h1 h2 h3 G F H (Same.refl _) c A _ fun vs G2 H2 s A2 ⟨v, w, u, e, r1, r2, r3⟩ => ⟨v, w, u, e, k v w u G2 H2 s A2 r1 r2 r3⟩
end
section
variable {P : Program} {w : World} {K : Fg} {mg : Str → Option Value} {base : Heap} {a : Adr}
theorem ev_spanned {σ : L2.St} {G L : Hp} {ta tb : TE} {E : XK} {p : Int} {wd : Nat} {rows : List (List Int)} (h1 : Ev ta σ G L RI p) (h2 : Ev tb σ G L (RL K (RL K RI)) rows) (p4 : P4 p) (hr : ∀ r ∈ rows, Wr p wd r) (hw : wd ≤ 1000) (hn : rows.length ≤ 1000) : Ev (tCall (spLSpanned K) [] E (tCons ta (tCons tb tNil))) σ G L (RL K (RL K RI)) (redS p wd rows).found :=
  ev_call (p, wd, rows) (ea2 h1 h2) (fun G' vs s ⟨z1, z2, e, q1, q2⟩ => ⟨z1, z2, e, q1, q2, p4, hr, hw, hn⟩) fun _ _ _ q => q

/-! _law_lost_columns -/
-- 0 _law_prime 1 _law_rows_here 2 _law_wide 3 _law_found 4 _law_leads 5 _law_some 6 _law_place 7 _law_column 8 _law_lead 9 _law_row 10 _law_at; cells _law_place _law_row _law_wide
abbrev sLLostColumns : Stmt := top 59
abbrev nLLostColumns : List Str := ["_law_prime", "_law_rows_here", "_law_wide", "_law_found", "_law_leads", "_law_some", "_law_place", "_law_column", "_law_lead", "_law_row", "_law_at"]
abbrev pLLostColumns : List Str := ["_law_prime", "_law_rows_here", "_law_wide"]
theorem scLLostColumns : FnScope nLLostColumns pLLostColumns (defScope sLLostColumns) := ⟨rfl, rfl, rfl, by decide +kernel, rfl, by decide +kernel, by decide +kernel⟩
def spLLostColumns (K : Fg) : Sp := SpP (ι := Int × Nat × List (List Int)) (fun i G vs => ∃ v1 v2 v3, vs = [v1, v2, v3] ∧ RI G v1 i.1 ∧ RL K (RL K RI) G v2 i.2.2 ∧ RN G v3 i.2.1 ∧ P4 i.1 ∧ (∀ r ∈ i.2.2, Wr i.1 i.2.1 r) ∧ i.2.1 ≤ 1000 ∧ i.2.2.length ≤ 1000) (fun i G v => RL K (RL K RI) G v (ker i.1 i.2.1 i.2.2))
theorem ok_LLostColumns (T : Txt K mg a) (h : Has K mg "_law_lost_columns" sLLostColumns pLLostColumns) (G__law_spanned : Fd P w K mg base CX0 "_law_spanned" pLSpanned 2 (spLSpanned K)) : Fd P w K mg base CX0 "_law_lost_columns" pLLostColumns 3 (spLLostColumns K) := by
  refine h.ok scLLostColumns (fun vs H Q E h => ?_) (fun f cdv A outer s H vs Q E hr h => ?_)
  · obtain ⟨i, G, F, _, ⟨v1, v2, v3, rfl, _⟩, _⟩ := h
    rfl
  · obtain ⟨⟨p, wd, rows⟩, G, F, hA, ⟨v1, v2, v3, rfl, r1, r2, r3, p4, hrow, hw, hn⟩, k⟩ := h
    dsimp only at r1 r2 r3 p4 hrow hw hn
    cases r1
    cases r3
    have nd := scLLostColumns.nd
    refine ⟨_, (pss_cons (ps_set (i := 3) nd rfl (Or.inl rfl) (pe_fd G__law_spanned (hr.mono (by decide)) (by rfl) (pa_cons (pv 0) (pa_cons (pv 1) pa_nil))))
      (pss_cons (ps_setLc (i := 4) (own := [("_law_row", 9)]) (g := (gName 9)) (tt := tYes) rfl nd rfl rfl (sw_true rfl rfl rfl (by decide +kernel)) (k_seq (K := K) rfl (pv 3)) (blkOk_by (N := nLLostColumns) (sc := defScope sLLostColumns) (by decide +kernel)) (fun _ _ _ _ _ => (pg_name (i := 9) nd rfl (by first | exact Or.inl rfl | exact Or.inr rfl))) (fun _ _ _ _ _ => pts_nil) (fun _ _ _ _ _ => (pe_ix (k_ix (K := K) rfl) (pe_lc (own := [("_law_place", 6)]) (g := (gName 6)) (tt := _) rfl nd (pi_range1 (by rfl) T.brange (pa_cons (pv 2) pa_nil)) (blkOk_by (N := nLLostColumns) (sc := (relS _ (defScope sLLostColumns))) (by decide +kernel)) (fun _ _ _ _ _ => (pg_name (i := 6) nd rfl (by first | exact Or.inl rfl | exact Or.inr rfl))) (fun _ _ _ _ _ => (pts_one (pt_cmpR op_gt (pe_ix (k_ix (K := K) rfl) (pv 9) (pv 6) (fun _ _ => rfl)) pe_int (nomark _)))) (fun _ _ _ _ _ => (pv 6))) pe_int (fun _ _ => rfl))))
      (pss_cons (ps_set (i := 5) nd rfl (Or.inl rfl) (pe_lst pa_nil))
      (pss_cons (ps_for PassesOwn.never rfl (pi_range1 (by rfl) T.brange (pa_cons (pv 2) pa_nil)) (pg_name (i := 6) nd rfl (by first | exact Or.inl rfl | exact Or.inr rfl))
        (pss_one (ps_if (pt_cmpR (k_notIn (K := K) rfl) (pv 6) (pv 4) rfl)
          (pss_cons (ps_setLc (i := 7) (own := [("_law_at", 10)]) (g := (gName 10)) (tt := tYes) rfl nd rfl rfl (sw_true rfl rfl rfl (by decide +kernel)) (pi_range1 (by rfl) T.brange (pa_cons (pv 2) pa_nil)) (blkOk_by (N := nLLostColumns) (sc := defScope sLLostColumns) (by decide +kernel)) (fun _ _ _ _ _ => (pg_name (i := 10) nd rfl (by first | exact Or.inl rfl | exact Or.inr rfl))) (fun _ _ _ _ _ => pts_nil) (fun _ _ _ _ _ => (pe_callTy call_int1 (by rfl) T.bint (by decide +kernel) (pa_cons (pe_cmpR op_eq (pv 10) (pv 6) (nomark _)) pa_nil))))
          (pss_cons (ps_for PassesOwn.never rfl (k_zip (K := K) rfl (by rfl) T.bzip (pa_cons (pv 4) (pa_cons (pv 3) pa_nil))) (k_tup (K := K) rfl rfl (pgs_cons (pg_name (i := 8) nd rfl (by first | exact Or.inl rfl | exact Or.inr rfl)) (pgs_cons (pg_name (i := 9) nd rfl (by first | exact Or.inl rfl | exact Or.inr rfl)) pgs_nil)))
            (pss_one (ps_asg (pe_op op_modN (pe_callTy call_int1 (by rfl) T.bint (by decide +kernel) (pa_cons (pe_un un_neg (pe_ix (k_ix (K := K) rfl) (pv 9) (pv 6) (fun _ _ => rfl))) pa_nil)) (pv 0)) (pg_sub (pv 7) (pv 8) set_list))))
          (pss_one (ps_expr (k_bm (K := K) rfl PySem.F.plainAttrs_list PySem.F.slot_list_append PySem.F.type_list_append mt_append (pv 5) (pa_cons (pv 7) pa_nil))))))
          pss_nil)))
      (pss_one (ps_ret (pe_fd G__law_spanned (hr.mono (by decide)) (by rfl) (pa_cons (pv 0) (pa_cons (pv 5) pa_nil))))))))), ?_⟩
    have hp := p4.fp
    have p1 := hp.pos
    have gd := good hp hrow
    refine s_asg (L := no) hA no_sub (R := RL K (RL K RI)) (x := (redS p wd rows).found) (ev_spanned (ev_var (R := RI) rfl rfl) (ev_var rfl r2) p4 hrow hw hn) fun v4 G1 H1 s1 A1 r4 => ?_
    have hker : ker p wd rows = red p wd ((freeP wd (redS p wd rows).places).map (fcol p wd (redS p wd rows).found (redS p wd rows).places)) := rfl
    rw [show (fun (i : Int × Nat × List (List Int)) G v => RL K (RL K RI) G v (ker i.1 i.2.1 i.2.2)) (p, wd, rows) = fun G v => RL K (RL K RI) G v (ker p wd rows) from rfl, hker] at k
    generalize redS p wd rows = st at r4 gd k
    have hlen := gd.len
    have cnt := gd.cnt
    refine s_asg (L := no) A1 no_sub (R := RL K RN) (x := st.places) (Ev.is (EvF.ev (ef_lcX (R := RL K RI) (S := RN) (ei_seqL (ev_var rfl r4)) (leadR wd) (by omega) fun r u G2 hr' s2 q2 => ?_)) (leads gd)) fun v5 G2 H2 s2 A2 r5 => ?_
    · obtain ⟨j, hj, ej⟩ := mem_ro hr'
      have hl := lead_at gd hj
      rw [ej] at hl
      refine ev_ixL (n := 0) (Ev.is (EvF.ev (ef_lcRF (S := RN) (ev_var (R := RN) rfl rfl) (by omega) (fun i => decide (0 < ix r i)) (fun i => i) (fun i v G3 hi s3 q3 => et_test (ev_cmp (f := fun i j => decide (j < i)) (ev_ixL (n := i) (ev_var (R := RL K RI) rfl (mn s3 q2)) (ev_var (R := RN) rfl q3).ni rfl (ix_some (by rw [(gd.wf r hr').1]; exact hi))) (ev_i (n := 0)))) fun i v G3 hi _ s3 q3 => ev_var rfl q3)) (List.map_id' _)) (ev_i (n := 0)) rfl ?_
      unfold leadR
      rw [List.getD, hl]
      rfl
    refine s_asgF (L := no) A2 no_sub (R := RL K RI) (xs := []) ef_nil fun m ws G3 H3 s3 n1 n2 A3 q3 => ?_
    cases q3
    have r4' := mn (s2.trans s3) r4
    have r5' := mn s3 r5
    refine nq ?_
    refine s_for (L := no) (n := wd) A3 no_sub (ei_rangeN (ev_var (R := RN) rfl rfl).ni (by omega))
      (fun i σ G' F' => Same G3 G' ∧ ∃ fs u6 u7 u8 u9, σ = [some (.int p), some v2, some (.int (wd : Int)), some v4, some v5, some (.ref m), u6, u7, u8, u9, none] ∧ F' = upd F m (.lst fs) ∧ Paired (RL K RI G') fs ((freeP i st.places).map (fcol p wd st.found st.places)))
      (fun G' s => ⟨s, [], none, none, none, none, rfl, rfl, .nil⟩) (fun _ _ _ _ _ => no_sub) ?_ ?_
    · rintro G0 s0 c v σ' G' F' H' hc ⟨s4, fs, u6, u7, u8, u9, rfl, rfl, q⟩ G'' s5 s6 A4 rfl
      have r4'' := mn (s4.trans s5) r4'
      have r5'' := mn (s4.trans s5) r5'
      have q' := pairedS s5 q
      have lfs : fs.length ≤ 1000 := by
        rw [Paired.len q, List.length_map]
        have := freeP_le st.places c
        omega
      refine s_if (L := no) A4 no_sub (b := !st.places.contains c) (et_test ((ev_inL (neg := true) (n := (c : Int)) (ev_var (R := RI) rfl rfl) (ev_var (R := RL K RN) rfl r5'').rln).is (by rw [contains_cast]; rfl))) (fun hb G5 H5 s7 A5 => ?_) fun hb G5 H5 s7 A5 => ?_
      · have hcP : c ∉ st.places := by simpa using hb
        refine s_asgF (L := no) A5 no_sub (R := RI) (xs := unitC wd c) (ef_lcR (ev_var (R := RN) rfl rfl) (by omega) (fun i => if i = c then 1 else 0) fun i u G6 hi s8 q8 => ?_) fun l cv G6 H6 s8 n3 n4 A6 q6 => ?_
        · cases q8
          refine (ev_intB (ev_eqI (i := (i : Int)) (j := (c : Int)) (ev_var (R := RI) rfl rfl) (ev_var (R := RI) rfl rfl))).is ?_
          by_cases e : i = c
          · subst e; simp
          · have : ¬ (i : Int) = (c : Int) := by omega
            simp [e, this]
        have lm : l ≠ m := fun z => by rw [z, upd_same] at n3; cases n3
        have fl : F l = none := by rw [upd_ne lm] at n3; exact n3
        have S1 : Same G'' G6 := s7.trans s8
        refine nq ?_
        refine s_for (L := no) (n := st.found.length) A6 no_sub (ei_zipL (ev_var rfl (mn S1 r5'')) (ev_var rfl (mn S1 r4'')) (by rw [← hlen]; simp))
          (fun i σ G' F' => Same G6 G' ∧ ∃ cv u8 u9, σ = [some (.int p), some v2, some (.int (wd : Int)), some v4, some v5, some (.ref m), some (V.int (c : Int)), some (.ref l), u8, u9, none] ∧ F' = upd (upd F m (.lst fs)) l (.lst cv) ∧ Paired (RI G') cv (((st.found.zip st.places).take i).foldl (fun col rq => col.set rq.2 ((-(ix rq.1 c)) % p)) (unitC wd c)))
          (fun G' s => ⟨s, cv, _, _, rfl, rfl, pairedS s q6⟩) (fun _ _ _ _ _ => no_sub) ?_ ?_
        · rintro G0' s0' i v σ' G' F' H' hi ⟨s9, cv, u8, u9, rfl, rfl, q9⟩ G7 s10 s11 A7 ⟨pl, row, e1, e2, b, w1, w2, e3, e4, e5, e6⟩
          refine ⟨b, [w1, w2], e3, sqtS A7.g e4, rfl, w1, [w2], rfl, w2, [], rfl, rfl, ?_⟩
          dsimp only at e5 e6
          cases e5
          have hpl : pl < wd := gd.plt _ (List.mem_of_getElem? e1)
          have wrow := gd.wf _ (List.mem_of_getElem? e2)
          have hcl : cv.length = wd := by
            rw [Paired.len q9]
            exact ((fold_set (p := p) (f := c) (w := wd) (by omega) _ (unitC wd c) (wr_unit p1)).1).1
          refine s_seti (L := no) A7 no_sub (k := 7) rfl (l := l) (vs := cv) upd_same (R := RI) (x := (-(ix row c)) % p) (ev_mod (ev_int1 (ev_neg (ev_ixL (n := c) (ev_var (R := RL K RI) rfl e6) (ev_var (R := RI) rfl rfl) rfl (ix_some (by rw [wrow.1]; exact hc))))) (ev_var (R := RI) rfl rfl) (by omega)) (ev_var (R := RI) (x := (pl : Int)) rfl rfl) rfl (by omega) fun v8 G8 H8 s12 A8 r8 => ?_
          rw [upd_upd] at A8
          refine ⟨G8, _, s11.trans s12, A8, (s9.trans s10).trans s12, _, _, _, rfl, rfl, ?_⟩
          have ez : (st.found.zip st.places)[i]? = some (row, pl) := by rw [List.getElem?_zip_eq_some]; exact ⟨e2, e1⟩
          rw [List.take_add_one, ez, List.foldl_append]
          exact pset r8 pl (pairedS (s10.trans s12) q9)
        · rintro σ' G' F' H' s9 A7 ⟨s10, cv, u8, u9, rfl, rfl, q9⟩
          have ez : (st.found.zip st.places).take st.found.length = st.found.zip st.places := List.take_of_length_le (by simp [Nat.min_le_left])
          rw [ez] at q9
          have nml : upd F m (.lst fs) l = none := by rw [upd_ne lm]; exact fl
          have A8 := A7.freezeN nml
          have s11 : Same G' (upd G' l (.lst cv)) := same_new (A7.d l _ upd_same)
          have rc : RL K RI (upd G' l (.lst cv)) (.ref l) (fcol p wd st.found st.places c) := ⟨l, cv, rfl, .inl (.inl upd_same), pairedS s11 q9⟩
          refine s_app (L := no) A8 no_sub (k := 5) rfl upd_same (R := RL K RI) (ev_var rfl rc) lfs fun vt G8 H8 s12 A9 r8 => ?_
          rw [upd_upd] at A9
          have S2 : Same G'' G8 := S1.trans (s10.trans (s11.trans s12))
          refine ⟨G8, _, s6.trans S2, A9, (s4.trans s5).trans S2, fs ++ [vt], _, _, _, _, rfl, rfl, ?_⟩
          have hcc : st.places.contains c = false := by simpa using hb
          rw [freeP_succ, hcc]
          simp only [Bool.false_eq_true, if_false, List.map_append, List.map_cons, List.map_nil]
          exact papp (pairedS S2 q') (pone r8)
      · have hcc : st.places.contains c = true := by simpa using hb
        refine ⟨G5, _, s6.trans s7, A5, (s4.trans s5).trans s7, fs, _, _, _, _, rfl, rfl, ?_⟩
        rw [freeP_succ, hcc]
        exact pairedS s7 q'
    · rintro σ' G' F' H' s4 A4 ⟨s5, fs, u6, u7, u8, u9, rfl, rfl, q⟩
      have A5 := A4.freezeN n1
      have s6 : Same G' (upd G' m (.lst fs)) := same_new (A4.d m _ upd_same)
      have rl : RL K (RL K RI) (upd G' m (.lst fs)) (.ref m) ((freeP wd st.places).map (fcol p wd st.found st.places)) := ⟨m, fs, rfl, .inl (.inl upd_same), pairedS s6 q⟩
      have hfl := freeP_le st.places wd
      refine s_ret (L := no) A5 no_sub (R := RL K (RL K RI)) (x := red p wd ((freeP wd st.places).map (fcol p wd st.found st.places))) (ev_spanned (ev_var (R := RI) rfl rfl) (ev_var rfl rl) p4 (freeC_wr p1) hw (by rw [List.length_map]; omega)) fun v G6 H6 s7 A6 q6 => ?_
      exact k v G6 H6 ((s1.trans (s2.trans s3)).trans ((s5.trans s6).trans s7)) A6 q6
end
end MW

set_option Elab.async false
set_option linter.all false
set_option maxRecDepth 100000
set_option maxHeartbeats 4000000
/-! Walks: the law's own turn. -/
namespace MW
open PySem PySem.Spec PyProof.Rows L2
theorem nums_T {d : WebD} {q : Nat} (h : isT d q = true) : ((List.range d.arrows.length).filter fun i => [(ar d i).1, (ar d i).2].contains q) = nums d q := by
  unfold nums
  cases e : isE d q with
  | true =>
    simp only [if_true]
    unfold endW
    refine List.filter_congr fun i hi => ?_
    have hb : (begW d q) = [] := by
      unfold isE at e
      exact List.eq_nil_of_length_eq_zero (by simpa using e)
    unfold begW at hb
    have := List.filter_eq_nil_iff.mp hb i hi
    have h1 : ¬ q = (ar d i).1 := fun z => this (by simp [z])
    rw [List.contains_cons, List.contains_cons, List.contains_nil, Bool.or_false, beq_eq_false_iff_ne.mpr h1, Bool.false_or]
    rw [Bool.eq_iff_iff, beq_iff_eq, beq_iff_eq]
    exact eq_comm
  | false =>
    simp only [Bool.false_eq_true, if_false]
    unfold begW
    refine List.filter_congr fun i hi => ?_
    have hb : (endW d q) = [] := by
      unfold isT isB at h
      rw [e] at h
      exact List.eq_nil_of_length_eq_zero (by simpa using h)
    unfold endW at hb
    have := List.filter_eq_nil_iff.mp hb i hi
    have h1 : ¬ q = (ar d i).2 := fun z => this (by simp [z])
    rw [List.contains_cons, List.contains_cons, List.contains_nil, Bool.or_false, beq_eq_false_iff_ne.mpr h1, Bool.or_false]
    rw [Bool.eq_iff_iff, beq_iff_eq, beq_iff_eq]
    exact eq_comm
section
variable {P : Program} {w : World} {K : Fg} {mg : Str → Option Value} {base : Heap} {a : Adr}
def prePT (K : Fg) (a : Adr) (i : PicD × Nat) (G : Hp) (vs : List V) : Prop := ∃ v1 v2, vs = [v1, v2] ∧ RPic K a G v1 i.1 ∧ RN G v2 i.2 ∧ okPic i.1 ∧ i.2 < i.1.web.many ∧ isT i.1.web i.2 = true

/-! _law_sides -/
-- 0 _law_picture_here 1 _law_place 2 _law_arrows 3 _law_is_end 4 _law_at 5 _law_a 6 _law_b; cells _law_arrows _law_place
abbrev sLSides : Stmt := top 62
abbrev nLSides : List Str := ["_law_picture_here", "_law_place", "_law_arrows", "_law_is_end", "_law_at", "_law_a", "_law_b"]
abbrev pLSides : List Str := ["_law_picture_here", "_law_place"]
theorem scLSides : FnScope nLSides pLSides (defScope sLSides) := ⟨rfl, rfl, rfl, by decide +kernel, rfl, by decide +kernel, by decide +kernel⟩
def spLSides (K : Fg) (a : Adr) : Sp := SpP (prePT K a) (fun i G v => RP K RB (RL K RN) G v (isE i.1.web i.2, nums i.1.web i.2))
theorem ok_LSides (T : Txt K mg a) (h : Has K mg "_law_sides" sLSides pLSides) : Fd P w K mg base CX0 "_law_sides" pLSides 1 (spLSides K a) := by
  refine h.ok scLSides (fun vs H Q E h => ?_) (fun f cdv A outer s H vs Q E hr h => ?_)
  · obtain ⟨i, G, F, _, ⟨v1, v2, rfl, _⟩, _⟩ := h
    rfl
  · obtain ⟨⟨d, q⟩, G, F, hA, ⟨v1, v2, rfl, r1, r2, ok, hq, ht⟩, k⟩ := h
    dsimp only at r1 r2 ok hq ht
    cases r2
    have nd := scLSides.nd
    refine ⟨_, (pss_cons (ps_set (i := 2) nd rfl (Or.inr rfl) (k_fld (K := K) rfl (k_fld (K := K) rfl (pv 0) rfl) rfl))
      (pss_cons (ps_set (i := 3) nd rfl (Or.inl rfl) (pe_not (pe_callB (k_any (K := K) rfl rfl) (by rfl) T.bany (by decide +kernel) (pa_cons (pe_lc (own := [("_law_a", 5), ("_law_b", 6)]) (g := (gTup K 2 (gCons (gName 5) (gCons (gName 6) gNil)))) (tt := tYes) rfl nd (k_seq (K := K) rfl (pv 2)) (blkOk_by (N := nLSides) (sc := defScope sLSides) (by decide +kernel)) (fun _ _ _ _ _ => (k_tup (K := K) rfl rfl (pgs_cons (pg_name (i := 5) nd rfl (by first | exact Or.inl rfl | exact Or.inr rfl)) (pgs_cons (pg_name (i := 6) nd rfl (by first | exact Or.inl rfl | exact Or.inr rfl)) pgs_nil)))) (fun _ _ _ _ _ => pts_nil) (fun _ _ _ _ _ => (pe_cmpR op_eq (pv 5) (pv 1) (nomark _)))) pa_nil))))
      (pss_one (ps_ret (pe_tup (pa_cons (pv 3) (pa_cons (pe_lc (own := [("_law_at", 4)]) (g := (gName 4)) (tt := _) rfl nd (pi_range1 (by rfl) T.brange (pa_cons (pe_callB (k_len (K := K) rfl) (by rfl) T.blen PySem.boot_len (pa_cons (pv 2) pa_nil)) pa_nil)) (blkOk_by (N := nLSides) (sc := defScope sLSides) (by decide +kernel)) (fun _ _ _ _ _ => (pg_name (i := 4) nd rfl (by first | exact Or.inl rfl | exact Or.inr rfl))) (fun _ _ _ _ _ => (pts_one (pt_cmpR (k_in (K := K) rfl) (pv 1) (pe_ix (k_ix (K := K) rfl) (pv 2) (pv 4) (fun _ _ => rfl)) rfl))) (fun _ _ _ _ _ => (pv 4))) pa_nil))))))), ?_⟩
    have ha := ok.web.a
    refine s_asg (L := no) hA no_sub (R := RT K (RP K RN RN)) (x := d.web.arrows) (ev_wArr T (ev_pWeb T (ev_var rfl r1))) fun v3 G1 H1 s1 A1 r3 => ?_
    refine s_asg (L := no) A1 no_sub (R := RB) (x := isE d.web q) ((ev_notV (ev_any (EvF.ev (ef_lcP (T := RB) (ei_seqT (ev_var rfl r3)) (fun x => x.1 == q) (by omega) fun x w1 w2 G' hx' s q1 q2 => (ev_eqI (i := (x.1 : Int)) (j := (q : Int)) (ev_var (R := RN) rfl q1).ni (ev_var (R := RN) rfl rfl).ni).is (natEq _ _))))).is (by rw [isE_any, List.any_map]; rfl)) fun v4 G2 H2 s2 A2 r4 => ?_
    refine s_ret (L := no) A2 no_sub (R := RP K RB (RL K RN)) (x := (isE d.web q, nums d.web q)) (ev_tup2 (ev_var rfl r4) (Ev.is (EvF.ev (ef_lcRF (S := RN) ((ev_lenT (ev_var rfl (mn s2 r3))).inn rfl) (by omega) (fun i => [(ar d.web i).1, (ar d.web i).2].contains q) (fun i => i) (fun i v G' hi s q1 => ?_) fun i v G' hi _ s q1 => ev_var rfl q1)) ((List.map_id' _).trans (nums_T ht)))) fun v G' H' s A q => k v G' H' (s1.trans (s2.trans s)) A q
    exact et_test ((ev_inT (neg := false) (n := (q : Int)) (ev_var (R := RN) rfl rfl).ni (Ev.rtn (ns := [(ar d.web i).1, (ar d.web i).2]) (Ev.pt (ev_ixT (n := i) (ev_var rfl (mn (s2.trans s) r3)) (ev_var (R := RN) rfl q1).ni rfl (getD_some hi (0, 0)))))).is (contains_cast q _))
theorem ev_sides {σ : L2.St} {G L : Hp} {ta tb : TE} {E : XK} {d : PicD} {q : Nat} (h1 : Ev ta σ G L (RPic K a) d) (h2 : Ev tb σ G L RN q) (ok : okPic d) (hq : q < d.web.many) (ht : isT d.web q = true) : Ev (tCall (spLSides K a) [] E (tCons ta (tCons tb tNil))) σ G L (RP K RB (RL K RN)) (isE d.web q, nums d.web q) :=
  ev_call (d, q) (ea2 h1 h2) (fun G' vs s ⟨z1, z2, e, q1, q2⟩ => ⟨z1, z2, e, q1, q2, ok, hq, ht⟩) fun _ _ _ q => q

/-! _law_glued -/
-- 0 _law_picture_here 1 _law_place 2 _law_is_end 3 _law_numbers 4 _law_found 5 _law_at 6 _law_row 7 _law_number 8 _law_rows_here 9 _law_other; cells _law_at
abbrev sLGlued : Stmt := top 63
abbrev nLGlued : List Str := ["_law_picture_here", "_law_place", "_law_is_end", "_law_numbers", "_law_found", "_law_at", "_law_row", "_law_number", "_law_rows_here", "_law_other"]
abbrev pLGlued : List Str := ["_law_picture_here", "_law_place"]
theorem scLGlued : FnScope nLGlued pLGlued (defScope sLGlued) := ⟨rfl, rfl, rfl, by decide +kernel, rfl, by decide +kernel, by decide +kernel⟩
def spLGlued (K : Fg) (a : Adr) : Sp := SpP (prePT K a) (fun i G v => RL K (RL K RI) G v (glued i.1 i.2))
def pieceR (d : PicD) (q c n : Nat) : List Int := if isE d.web q then ro (tb d n).rows c else (tb d n).rows.map fun r => ix r c
theorem piece_len {d : PicD} (ok : okPic d) {q c n : Nat} (h : n ∈ nums d.web q) (hc : c < sz d q) : (pieceR d q c n).length ≤ 6 := by
  have hs := side ok h
  have := sz_le ok (oth d.web q n)
  unfold pieceR
  cases e : isE d.web q with
  | true =>
    rw [if_pos rfl, (hs.2.2 _ (ro_mem (by rw [(hs.1 e).1]; exact hc))).1, (hs.1 e).2]
    exact this
  | false =>
    rw [if_neg (by decide), List.length_map, (hs.2.1 e).2]
    exact this
theorem ok_LGlued (T : Txt K mg a) (h : Has K mg "_law_glued" sLGlued pLGlued) (G__law_sides : Fd P w K mg base CX0 "_law_sides" pLSides 1 (spLSides K a)) : Fd P w K mg base CX0 "_law_glued" pLGlued 2 (spLGlued K a) := by
  refine h.ok scLGlued (fun vs H Q E h => ?_) (fun f cdv A outer s H vs Q E hr h => ?_)
  · obtain ⟨i, G, F, _, ⟨v1, v2, rfl, _⟩, _⟩ := h
    rfl
  · obtain ⟨⟨d, q⟩, G, F, hA, ⟨v1, v2, rfl, r1, r2, ok, hq, ht⟩, k⟩ := h
    dsimp only at r1 r2 ok hq ht
    cases r2
    have nd := scLGlued.nd
    refine ⟨_, (pss_cons (ps_asg (pe_fd G__law_sides (hr.mono (by decide)) (by rfl) (pa_cons (pv 0) (pa_cons (pv 1) pa_nil))) (k_tup (K := K) rfl rfl (pgs_cons (pg_name (i := 2) nd rfl (by first | exact Or.inl rfl | exact Or.inr rfl)) (pgs_cons (pg_name (i := 3) nd rfl (by first | exact Or.inl rfl | exact Or.inr rfl)) pgs_nil))))
      (pss_cons (ps_set (i := 4) nd rfl (Or.inl rfl) (pe_lst pa_nil))
      (pss_cons (ps_for PassesOwn.never rfl (pi_range1 (by rfl) T.brange (pa_cons (pe_ix (k_ix (K := K) rfl) (k_fld (K := K) rfl (pv 0) rfl) (pv 1) (fun _ _ => rfl)) pa_nil)) (pg_name (i := 5) nd rfl (by first | exact Or.inl rfl | exact Or.inr rfl))
        (pss_cons (ps_set (i := 6) nd rfl (Or.inl rfl) (pe_lst pa_nil))
        (pss_cons (ps_for PassesOwn.never rfl (k_seq (K := K) rfl (pv 3)) (pg_name (i := 7) nd rfl (by first | exact Or.inl rfl | exact Or.inr rfl))
          (pss_cons (ps_set (i := 8) nd rfl (Or.inl rfl) (k_fld (K := K) rfl (pe_ix (k_ix (K := K) rfl) (k_fld (K := K) rfl (pv 0) rfl) (pv 7) (fun _ _ => rfl)) rfl))
          (pss_one (ps_expr (k_bm (K := K) rfl PySem.F.plainAttrs_list PySem.F.slot_list_extend PySem.F.type_list_extend mt_extend (pv 6) (pa_cons (pe_ifExp (pt_val (pv 2)) (pe_callTy (k_list (K := K) rfl) (by rfl) T.blist (by decide +kernel) (pa_cons (pe_ix (k_ix (K := K) rfl) (pv 8) (pv 5) (fun _ _ => rfl)) pa_nil)) (pe_lc (own := [("_law_other", 9)]) (g := (gName 9)) (tt := tYes) rfl nd (k_seq (K := K) rfl (pv 8)) (blkOk_by (N := nLGlued) (sc := defScope sLGlued) (by decide +kernel)) (fun _ _ _ _ _ => (pg_name (i := 9) nd rfl (by first | exact Or.inl rfl | exact Or.inr rfl))) (fun _ _ _ _ _ => pts_nil) (fun _ _ _ _ _ => (pe_ix (k_ix (K := K) rfl) (pv 9) (pv 5) (fun _ _ => rfl))))) pa_nil))))))
        (pss_one (ps_expr (k_bm (K := K) rfl PySem.F.plainAttrs_list PySem.F.slot_list_append PySem.F.type_list_append mt_append (pv 4) (pa_cons (pv 6) pa_nil)))))))
      (pss_one (ps_ret (pv 4)))))), ?_⟩
    have ha := ok.web.a
    have hm := ok.web.m2
    have hsl := ok.sl
    have htl := ok.tl
    have hsq := sz_le ok q
    have hnl := @nums_len d.web q
    refine s_asg2 (L := no) hA no_sub (ev_sides (ev_var rfl r1) (ev_var (R := RN) rfl rfl) ok hq ht) fun v3 v4 G1 H1 s1 A1 r3 r4 => ?_
    cases r3
    refine s_asgF (L := no) A1 no_sub (R := RL K RI) (xs := []) ef_nil fun m ws G2 H2 s2 n1 n2 A2 q2 => ?_
    cases q2
    refine nq ?_
    refine s_for (L := no) (n := sz d q) A2 no_sub (ei_rangeN (ev_ixT (n := q) (ev_pSizes T (ev_var rfl (mn (s1.trans s2) r1))) (ev_var (R := RN) rfl rfl).ni rfl (getD_some (by omega) 0)).ni (by omega))
      (fun i σ G' F' => Same G2 G' ∧ ∃ fs u5 u6 u7 u8, σ = [some v1, some (.int (q : Int)), some (.bl (isE d.web q)), some v4, some (.ref m), u5, u6, u7, u8, none] ∧ F' = upd F m (.lst fs) ∧ Paired (RL K RI G') fs ((List.range i).map fun c => ((nums d.web q).map (pieceR d q c)).flatten))
      (fun G' s => ⟨s, [], none, none, none, none, rfl, rfl, .nil⟩) (fun _ _ _ _ _ => no_sub) ?_ ?_
    · rintro G0 s0 c v σ' G' F' H' hc ⟨s4, fs, u5, u6, u7, u8, rfl, rfl, pf⟩ G'' s5 s6 A4 rfl
      have S4 := (s1.trans s2).trans (s4.trans s5)
      have lfs : fs.length ≤ 1000 := by
        rw [Paired.len pf]
        simp
        omega
      refine s_asgF (L := no) A4 no_sub (R := RI) (xs := []) ef_nil fun l cv G5 H5 s7 n3 n4 A5 q5 => ?_
      cases q5
      have lm : l ≠ m := fun z => by rw [z, upd_same] at n3; cases n3
      have fl : F l = none := by rw [upd_ne lm] at n3; exact n3
      refine nq ?_
      refine s_for (L := no) (n := (nums d.web q).length) A5 no_sub (ei_seqL (ev_var rfl (mn (s2.trans (s4.trans (s5.trans s7))) r4)))
        (fun i σ G' F' => Same G5 G' ∧ ∃ cv u7 u8, σ = [some v1, some (.int (q : Int)), some (.bl (isE d.web q)), some v4, some (.ref m), some (V.int (c : Int)), some (.ref l), u7, u8, none] ∧ F' = upd (upd F m (.lst fs)) l (.lst cv) ∧ Paired (RI G') cv (((nums d.web q).take i).map (pieceR d q c)).flatten)
        (fun G' s => ⟨s, [], _, _, rfl, rfl, .nil⟩) (fun _ _ _ _ _ => no_sub) ?_ ?_
      · rintro G0' s0' i v σ' G' F' H' hi ⟨s9, cv, u7, u8, rfl, rfl, pc⟩ G7 s10 s11 A7 ⟨n, en, rn⟩
        cases rn
        have hn := List.mem_of_getElem? en
        have hnlt := nums_lt hn
        have S7 := S4.trans (s7.trans (s9.trans s10))
        have sd := side ok hn
        refine s_asg (L := no) A7 no_sub (R := RT K (RT K RI)) (x := (tb d n).rows) (ev_tRows T (ev_ixT (n := n) (ev_pTabs T (ev_var rfl (mn S7 r1))) (ev_var (R := RN) (x := n) rfl rfl).ni rfl (getD_some (by omega) tb0))) fun v8 G8 H8 s12 A8 r8 => ?_
        have hcv : cv.length ≤ 1000 := by
          rw [Paired.len pc, flat_len (pieceR d q c) (fun n => (pieceR d q c n).length) _ fun _ _ => rfl]
          have := sum_le (fun n => (pieceR d q c n).length) 6 ((nums d.web q).take i) fun n hn => piece_len ok (List.mem_of_mem_take hn) hc
          rw [List.length_take] at this
          omega
        have hpl := piece_len ok hn hc
        refine s_ext (L := no) A8 no_sub (R := RI) (xs := pieceR d q c n) rfl upd_same (ef_if (b := isE d.web q) (et_B (ev_var (R := RB) rfl rfl)) (fun hb => ?_) fun hb => ?_) (by omega) fun ws G9 H9 s13 A9 p9 => ?_
        · have e : pieceR d q c n = ro (tb d n).rows c := by unfold pieceR; rw [hb]; rfl
          have hr : c < (tb d n).rows.length := by rw [(sd.1 hb).1]; exact hc
          rw [e]
          exact ef_lstT (ev_ixT (n := c) (ev_var rfl r8) (ev_var (R := RN) (x := c) rfl rfl).ni rfl (by rw [ro_get hr]; simp [hr]))
        · have e : pieceR d q c n = (tb d n).rows.map fun r => ix r c := by unfold pieceR; rw [hb]; rfl
          rw [e]
          have h2 := (sd.2.1 hb)
          exact ef_lcX (R := RT K RI) (S := RI) (ei_seqT (ev_var rfl r8)) (fun r => ix r c) (by have := sz_le ok (oth d.web q n); omega) fun r u G10 hr' s14 q14 => ev_ixT (n := c) (ev_var rfl q14) (ev_var (R := RN) (x := c) rfl rfl).ni rfl (ix_some (by rw [(sd.2.2 r hr').1, h2.1]; exact hc))
        · rw [upd_upd] at A9
          have S := s10.trans (s12.trans s13)
          refine ⟨G9, _, s11.trans (s12.trans s13), A9, s9.trans S, cv ++ ws, some (V.int (n : Int)), some v8, rfl, rfl, ?_⟩
          rw [List.take_add_one, en, List.map_append, List.flatten_append]
          have := papp (pairedS S pc) p9
          simpa using this
      · rintro σ' G' F' H' s9 A7 ⟨s10, cv, u7, u8, rfl, rfl, pc⟩
        rw [List.take_length] at pc
        have nml : upd F m (.lst fs) l = none := by rw [upd_ne lm]; exact fl
        have A8 := A7.freezeN nml
        have s11 : Same G' (upd G' l (.lst cv)) := same_new (A7.d l _ upd_same)
        have rc : RL K RI (upd G' l (.lst cv)) (.ref l) ((nums d.web q).map (pieceR d q c)).flatten := ⟨l, cv, rfl, .inl (.inl upd_same), pairedS s11 pc⟩
        refine s_app (L := no) A8 no_sub (k := 4) rfl upd_same (R := RL K RI) (ev_var rfl rc) lfs fun vt G8 H8 s12 A9 r8 => ?_
        rw [upd_upd] at A9
        have S2 : Same G'' G8 := s7.trans (s10.trans (s11.trans s12))
        refine ⟨G8, _, s6.trans S2, A9, (s4.trans s5).trans S2, fs ++ [vt], _, _, _, _, rfl, rfl, ?_⟩
        rw [List.range_succ, List.map_append]
        exact papp (pairedS (s5.trans S2) pf) (pone r8)
    · rintro σ' G' F' H' s4 A4 ⟨s5, fs, u5, u6, u7, u8, rfl, rfl, pf⟩
      have A5 := A4.freezeN n1
      have s6 : Same G' (upd G' m (.lst fs)) := same_new (A4.d m _ upd_same)
      refine s_ret (L := no) A5 no_sub (R := RL K (RL K RI)) (x := glued d q) (ev_var rfl ⟨m, fs, rfl, .inl (.inl upd_same), pairedS s6 pf⟩) fun v G6 H6 s7 A6 q6 => ?_
      exact k v G6 H6 ((s1.trans s2).trans (s5.trans (s6.trans s7))) A6 q6
end
end MW

set_option Elab.async false
set_option linter.all false
set_option maxRecDepth 100000
set_option maxHeartbeats 4000000
/-! Walks: the law's own turn, compared. -/
namespace MW
open PySem PySem.Spec PyProof.Rows L2
section
variable {P : Program} {w : World} {K : Fg} {mg : Str → Option Value} {base : Heap} {a : Adr}
theorem ev_glued {σ : L2.St} {G L : Hp} {ta tb : TE} {E : XK} {d : PicD} {q : Nat} (h1 : Ev ta σ G L (RPic K a) d) (h2 : Ev tb σ G L RN q) (ok : okPic d) (hq : q < d.web.many) (ht : isT d.web q = true) : Ev (tCall (spLGlued K a) [] E (tCons ta (tCons tb tNil))) σ G L (RL K (RL K RI)) (glued d q) :=
  ev_call (d, q) (ea2 h1 h2) (fun G' vs s ⟨z1, z2, e, q1, q2⟩ => ⟨z1, z2, e, q1, q2, ok, hq, ht⟩) fun _ _ _ q => q
def rowsOf (ts : List TabD) : List (List (List Int)) := ts.map TabD.rows
theorem oth_lt {d : PicD} (ok : okPic d) {q n : Nat} (h : n ∈ nums d.web q) : oth d.web q n < d.web.many := by
  have hb := ok.web.b (ar d.web n) (List.mem_of_getElem? (getD_some (nums_lt h) (0, 0)))
  unfold oth
  split
  · exact hb.1
  · exact hb.2

/-! _law_turned -/
-- 0 _law_picture_here 1 _law_place 2 _law_is_end 3 _law_numbers 4 _law_prime 5 _law_web 6 _law_glued_here 7 _law_ends 8 _law_wide 9 _law_kept 10 _law_at 11 _law_tables 12 _law_number 13 _law_end 14 _law_parts 15 _law_sizes 16 _law_table 17 _law_row 18 _law_column 19 _law_part_here; cells _law_at _law_end _law_is_end _law_parts _law_picture_here _law_web
abbrev sLTurned : Stmt := top 64
abbrev nLTurned : List Str := ["_law_picture_here", "_law_place", "_law_is_end", "_law_numbers", "_law_prime", "_law_web", "_law_glued_here", "_law_ends", "_law_wide", "_law_kept", "_law_at", "_law_tables", "_law_number", "_law_end", "_law_parts", "_law_sizes", "_law_table", "_law_row", "_law_column", "_law_part_here"]
abbrev pLTurned : List Str := ["_law_picture_here", "_law_place"]
theorem scLTurned : FnScope nLTurned pLTurned (defScope sLTurned) := ⟨rfl, rfl, rfl, by decide +kernel, rfl, by decide +kernel, by decide +kernel⟩
def spLTurned (K : Fg) (a : Adr) : Sp := SpP (prePT K a) (fun i G v => R3 K (RT K RN) (RL K (RL K (RL K RI))) RI G v ((turnP i.1 i.2).sizes, rowsOf (turnP i.1 i.2).tabs, lostN i.1 i.2))
theorem ok_LTurned (T : Txt K mg a) (h : Has K mg "_law_turned" sLTurned pLTurned) (G__law_sides : Fd P w K mg base CX0 "_law_sides" pLSides 1 (spLSides K a)) (G__law_glued : Fd P w K mg base CX0 "_law_glued" pLGlued 2 (spLGlued K a)) (G__law_lost_columns : Fd P w K mg base CX0 "_law_lost_columns" pLLostColumns 3 (spLLostColumns K)) (G__law_spanned : Fd P w K mg base CX0 "_law_spanned" pLSpanned 2 (spLSpanned K)) : Fd P w K mg base CX0 "_law_turned" pLTurned 4 (spLTurned K a) := by
  refine h.ok scLTurned (fun vs H Q E h => ?_) (fun f cdv A outer s H vs Q E hr h => ?_)
  · obtain ⟨i, G, F, _, ⟨v1, v2, rfl, _⟩, _⟩ := h
    rfl
  · obtain ⟨⟨d, q⟩, G, F, hA, ⟨v1, v2, rfl, r1, r2, ok, hq, ht⟩, k⟩ := h
    dsimp only at r1 r2 ok hq ht
    cases r2
    have nd := scLTurned.nd
    refine ⟨_, (pss_cons (ps_asg (pe_fd G__law_sides (hr.mono (by decide)) (by rfl) (pa_cons (pv 0) (pa_cons (pv 1) pa_nil))) (k_tup (K := K) rfl rfl (pgs_cons (pg_name (i := 2) nd rfl (by first | exact Or.inl rfl | exact Or.inr rfl)) (pgs_cons (pg_name (i := 3) nd rfl (by first | exact Or.inl rfl | exact Or.inr rfl)) pgs_nil))))
      (pss_cons (ps_asg (pe_tup (pa_cons (k_fld (K := K) rfl (pv 0) rfl) (pa_cons (k_fld (K := K) rfl (pv 0) rfl) (pa_cons (pe_fd G__law_glued (hr.mono (by decide)) (by rfl) (pa_cons (pv 0) (pa_cons (pv 1) pa_nil))) pa_nil)))) (k_tup (K := K) rfl rfl (pgs_cons (pg_name (i := 4) nd rfl (by first | exact Or.inl rfl | exact Or.inr rfl)) (pgs_cons (pg_name (i := 5) nd rfl (by first | exact Or.inl rfl | exact Or.inr rfl)) (pgs_cons (pg_name (i := 6) nd rfl (by first | exact Or.inl rfl | exact Or.inr rfl)) pgs_nil)))))
      (pss_cons (ps_setLc (i := 7) (own := [("_law_at", 10)]) (g := (gName 10)) (tt := tYes) rfl nd rfl rfl (sw_true rfl rfl rfl (by decide +kernel)) (k_seq (K := K) rfl (pv 3)) (blkOk_by (N := nLTurned) (sc := defScope sLTurned) (by decide +kernel)) (fun _ _ _ _ _ => (pg_name (i := 10) nd rfl (by first | exact Or.inl rfl | exact Or.inr rfl))) (fun _ _ _ _ _ => pts_nil) (fun _ _ _ _ _ => (pe_ifExp (pt_val (pv 2)) (pe_ix (k_ix (K := K) rfl) (pe_ix (k_ix (K := K) rfl) (k_fld (K := K) rfl (pv 5) rfl) (pv 10) (fun _ _ => rfl)) pe_int (fun _ _ => rfl)) (pe_ix (k_ix (K := K) rfl) (pe_ix (k_ix (K := K) rfl) (k_fld (K := K) rfl (pv 5) rfl) (pv 10) (fun _ _ => rfl)) pe_int (fun _ _ => rfl)))))
      (pss_cons (ps_set (i := 8) nd rfl (Or.inl rfl) (pe_callB (k_sum (K := K) rfl rfl) (by rfl) T.bsum (by decide +kernel) (pa_cons (pe_lc (own := [("_law_end", 13)]) (g := (gName 13)) (tt := tYes) rfl nd (k_seq (K := K) rfl (pv 7)) (blkOk_by (N := nLTurned) (sc := defScope sLTurned) (by decide +kernel)) (fun _ _ _ _ _ => (pg_name (i := 13) nd rfl (by first | exact Or.inl rfl | exact Or.inr rfl))) (fun _ _ _ _ _ => pts_nil) (fun _ _ _ _ _ => (pe_ix (k_ix (K := K) rfl) (k_fld (K := K) rfl (pv 0) rfl) (pv 13) (fun _ _ => rfl)))) pa_nil)))
      (pss_cons (ps_asg (pe_tup (pa_cons (pe_fd G__law_lost_columns (hr.mono (by decide)) (by rfl) (pa_cons (pv 4) (pa_cons (pv 6) (pa_cons (pv 8) pa_nil)))) (pa_cons pe_int pa_nil))) (k_tup (K := K) rfl rfl (pgs_cons (pg_name (i := 9) nd rfl (by first | exact Or.inl rfl | exact Or.inr rfl)) (pgs_cons (pg_name (i := 10) nd rfl (by first | exact Or.inl rfl | exact Or.inr rfl)) pgs_nil))))
      (pss_cons (ps_setLc (i := 11) (own := [("_law_table", 16)]) (g := (gName 16)) (tt := tYes) rfl nd rfl rfl (sw_true rfl rfl rfl (by decide +kernel)) (k_seq (K := K) rfl (k_fld (K := K) rfl (pv 0) rfl)) (blkOk_by (N := nLTurned) (sc := defScope sLTurned) (by decide +kernel)) (fun _ _ _ _ _ => (pg_name (i := 16) nd rfl (by first | exact Or.inl rfl | exact Or.inr rfl))) (fun _ _ _ _ _ => pts_nil) (fun _ _ _ _ _ => (pe_lc (own := [("_law_row", 17)]) (g := (gName 17)) (tt := tYes) rfl nd (k_seq (K := K) rfl (k_fld (K := K) rfl (pv 16) rfl)) (blkOk_by (N := nLTurned) (sc := (relS _ (defScope sLTurned))) (by decide +kernel)) (fun _ _ _ _ _ => (pg_name (i := 17) nd rfl (by first | exact Or.inl rfl | exact Or.inr rfl))) (fun _ _ _ _ _ => pts_nil) (fun _ _ _ _ _ => (pe_callTy (k_list (K := K) rfl) (by rfl) T.blist (by decide +kernel) (pa_cons (pv 17) pa_nil))))))
      (pss_cons (ps_for PassesOwn.never rfl (k_zip (K := K) rfl (by rfl) T.bzip (pa_cons (pv 3) (pa_cons (pv 7) pa_nil))) (k_tup (K := K) rfl rfl (pgs_cons (pg_name (i := 12) nd rfl (by first | exact Or.inl rfl | exact Or.inr rfl)) (pgs_cons (pg_name (i := 13) nd rfl (by first | exact Or.inl rfl | exact Or.inr rfl)) pgs_nil)))
        (pss_cons (ps_set (i := 14) nd rfl (Or.inr rfl) (pe_lc (own := [("_law_column", 18)]) (g := (gName 18)) (tt := tYes) rfl nd (k_seq (K := K) rfl (pv 9)) (blkOk_by (N := nLTurned) (sc := defScope sLTurned) (by decide +kernel)) (fun _ _ _ _ _ => (pg_name (i := 18) nd rfl (by first | exact Or.inl rfl | exact Or.inr rfl))) (fun _ _ _ _ _ => pts_nil) (fun _ _ _ _ _ => (pe_slice (k_sl (K := K) rfl) (pv 18) (po_some (pv 10)) (po_some (pe_op op_add (pv 10) (pe_ix (k_ix (K := K) rfl) (k_fld (K := K) rfl (pv 0) rfl) (pv 13) (fun _ _ => rfl))))))))
        (pss_cons (ps_asg (pe_ifExp (pt_val (pv 2)) (pe_lc (own := [("_law_row", 17)]) (g := (gName 17)) (tt := tYes) rfl nd (pi_range1 (by rfl) T.brange (pa_cons (pe_ix (k_ix (K := K) rfl) (k_fld (K := K) rfl (pv 0) rfl) (pv 13) (fun _ _ => rfl)) pa_nil)) (blkOk_by (N := nLTurned) (sc := defScope sLTurned) (by decide +kernel)) (fun _ _ _ _ _ => (pg_name (i := 17) nd rfl (by first | exact Or.inl rfl | exact Or.inr rfl))) (fun _ _ _ _ _ => pts_nil) (fun _ _ _ _ _ => (pe_lc (own := [("_law_part_here", 19)]) (g := (gName 19)) (tt := tYes) rfl nd (k_seq (K := K) rfl (pv 14)) (blkOk_by (N := nLTurned) (sc := (relS _ (defScope sLTurned))) (by decide +kernel)) (fun _ _ _ _ _ => (pg_name (i := 19) nd rfl (by first | exact Or.inl rfl | exact Or.inr rfl))) (fun _ _ _ _ _ => pts_nil) (fun _ _ _ _ _ => (pe_ix (k_ix (K := K) rfl) (pv 19) (pv 17) (fun _ _ => rfl)))))) (pv 14)) (pg_sub (pv 11) (pv 12) set_list))
        (pss_one (ps_set (i := 10) nd rfl (Or.inr rfl) (pe_op op_add (pv 10) (pe_ix (k_ix (K := K) rfl) (k_fld (K := K) rfl (pv 0) rfl) (pv 13) (fun _ _ => rfl))))))))
      (pss_cons (ps_set (i := 15) nd rfl (Or.inl rfl) (pe_op (k_catA (K := K) rfl) (pe_op (k_catA (K := K) rfl) (pe_slice (k_sl (K := K) rfl) (k_fld (K := K) rfl (pv 0) rfl) po_none (po_some (pv 1))) (pe_tup (pa_cons (pe_callB (k_len (K := K) rfl) (by rfl) T.blen PySem.boot_len (pa_cons (pv 9) pa_nil)) pa_nil))) (pe_slice (k_sl (K := K) rfl) (k_fld (K := K) rfl (pv 0) rfl) (po_some (pe_op op_add (pv 1) pe_int)) po_none)))
      (pss_one (ps_ret (pe_tup (pa_cons (pv 15) (pa_cons (pv 11) (pa_cons (pe_op op_sub (pe_ix (k_ix (K := K) rfl) (k_fld (K := K) rfl (pv 0) rfl) (pv 1) (fun _ _ => rfl)) (pe_callB (k_len (K := K) rfl) (by rfl) T.blen PySem.boot_len (pa_cons (pe_fd G__law_spanned (hr.mono (by decide)) (by rfl) (pa_cons (pv 4) (pa_cons (pv 6) pa_nil))) pa_nil))) pa_nil)))))))))))))), ?_⟩
    have ha := ok.web.a
    have hm := ok.web.m2
    have hsl := ok.sl
    have htl := ok.tl
    have hsq := sz_le ok q
    have hnl := @nums_len d.web q
    have hgw := gw_le ok q
    have hkl := kept_le ok (q := q)
    have hgl := glued_len d q
    refine s_asg2 (L := no) hA no_sub (ev_sides (ev_var rfl r1) (ev_var (R := RN) rfl rfl) ok hq ht) fun v3 v4 G1 H1 s1 A1 r3 r4 => ?_
    cases r3
    refine s_asg3 (L := no) A1 no_sub (R := RI) (S := RWeb K a) (T := RL K (RL K RI)) (x := d.p) (y := d.web) (z := glued d q) (ev_tup3 (ev_pPrime T (ev_var rfl (mn s1 r1))) (ev_pWeb T (ev_var rfl (mn s1 r1))) (ev_glued (ev_var rfl (mn s1 r1)) (ev_var (R := RN) rfl rfl) ok hq ht)) fun v5 v6 v7 G2 H2 s2 A2 r5 r6 r7 => ?_
    cases r5
    refine s_asg (L := no) A2 no_sub (R := RL K RN) (x := (nums d.web q).map (oth d.web q)) (EvF.ev (ef_lcX (R := RN) (S := RN) (ei_seqL (ev_var rfl (mn s2 r4))) (oth d.web q) (by omega) fun n u G3 hn s3 q3 => ?_)) fun v8 G3 H3 s3 A3 r8 => ?_
    · refine ev_if (b := isE d.web q) (et_B (ev_var (R := RB) rfl rfl)) (fun hb => ?_) fun hb => ?_
      · exact (ev_ixP0 (ev_ixT (n := n) (x := ar d.web n) (ev_wArr T (ev_var rfl (mn s3 r6))) (ev_var (R := RN) rfl q3).ni rfl (getD_some (nums_lt hn) (0, 0)))).is (by unfold oth; rw [hb]; rfl)
      · exact (ev_ixP1 (ev_ixT (n := n) (x := ar d.web n) (ev_wArr T (ev_var rfl (mn s3 r6))) (ev_var (R := RN) rfl q3).ni rfl (getD_some (nums_lt hn) (0, 0)))).is (by unfold oth; rw [hb]; rfl)
    refine nq ?_
    have esum : (((nums d.web q).map (oth d.web q)).map fun o => (sz d o : Int)).sum = (gw d q : Int) := by
      rw [List.map_map]
      unfold gw
      rw [← sum_nat, List.map_map]
      rfl
    refine s_asg (L := no) A3 no_sub (R := RN) (x := gw d q) ((ev_sum (ns := ((nums d.web q).map (oth d.web q)).map fun o => (sz d o : Int)) (EvF.ev (ef_lcX (R := RN) (S := RI) (ei_seqL (ev_var rfl r8)) (fun o => (sz d o : Int)) (by rw [List.length_map]; omega) fun o u G4 ho s4 q4 => ?_))).inn esum) fun v9 G4 H4 s4 A4 r9 => ?_
    · obtain ⟨n, hn, e⟩ := List.mem_map.mp ho
      have := oth_lt ok hn
      rw [e] at this
      exact (ev_ixT (n := o) (ev_pSizes T (ev_var rfl (mn ((s1.trans s2).trans (s3.trans s4)) r1))) (ev_var (R := RN) rfl q4).ni rfl (getD_some (by omega) 0)).ni
    cases r9
    refine nq ?_
    refine s_asg2 (L := no) A4 no_sub (R := RL K (RL K RI)) (S := RI) (x := kept d q) (y := 0) (ev_tup2 (ev_call (R := RL K (RL K RI)) (d.p, gw d q, glued d q) (ea3 (R := RI) (S := RL K (RL K RI)) (U := RN) (x := d.p) (ev_var rfl rfl) (ev_var rfl (mn (s3.trans s4) r7)) (ev_var rfl rfl)) (fun G' vs s ⟨z1, z2, z3, e, q1, q2, q3⟩ => ⟨z1, z2, z3, e, q1, q2, q3, ok.p, glued_wr ok, by dsimp only; omega, by dsimp only; omega⟩) fun _ _ _ q => q) ev_i) fun v10 v11 G5 H5 s5 A5 r10 r11 => ?_
    cases r11
    have S5 : Same G G5 := (s1.trans s2).trans ((s3.trans s4).trans s5)
    refine nq ?_
    refine s_asgF (L := no) A5 no_sub (R := RL K (RL K RI)) (xs := rowsOf d.tabs) (ef_lcX (R := RTab K a) (S := RL K (RL K RI)) (ei_seqT (ev_pTabs T (ev_var rfl (mn S5 r1)))) TabD.rows (by omega) fun t u G6 ht' s6 q6 => ?_) fun l vs G6 H6 s6 n1 n2 A6 r12 => ?_
    · have hrl : t.rows.length ≤ 1000 := by
        obtain ⟨i, hi⟩ := List.getElem?_of_mem ht'
        have hil := (List.getElem?_eq_some_iff.mp hi).1
        have e : tb d i = t := by unfold tb; simp [List.getD, hi]
        have h := (ok.t i (by omega)).2.1
        rw [e] at h
        have := sz_le ok (ar d.web i).2
        omega
      exact Ev.is (EvF.ev (ef_lcX (R := RT K RI) (S := RL K RI) (ei_seqT (ev_tRows T (ev_var rfl q6))) (fun r => r) (by omega) fun r u' G7 hr' s7 q7 => EvF.ev (ef_lstT (ev_var rfl q7)))) (List.map_id' _)
    have S6 := S5.trans s6
    refine nq ?_
    refine s_for (L := no) (n := (nears d.web q).length) A6 no_sub (ei_zipL (ev_var rfl (mn ((s2.trans (s3.trans s4)).trans (s5.trans s6)) r4)) (ev_var rfl (mn (s4.trans (s5.trans s6)) r8)) (by rw [nears_len, List.length_map]; simp))
      (fun i σ G' F' => Same G6 G' ∧ ∃ vs u12 u13 u14, σ = [some v1, some (.int (q : Int)), some (.bl (isE d.web q)), some v4, some (.int d.p), some v6, some v7, some v8, some (.int (gw d q : Int)), some v10, some (.int ((foldT d q i).2 : Int)), some (.ref l), u12, u13, u14, none, none, none, none, none] ∧ F' = upd F l (.lst vs) ∧ Paired (RL K (RL K RI) G') vs (rowsOf (foldT d q i).1))
      (fun G' s => ⟨s, vs, none, none, none, rfl, rfl, pairedS s r12⟩) (fun _ _ _ _ _ => no_sub) ?_ ?_
    · rintro G0 s0 i v σ' G' F' H' hi ⟨s7, vs, u12, u13, u14, rfl, rfl, p⟩ G'' s8 s9 A7 ⟨n, o, en, eo, b, w1, w2, e1, e2, e3, e4⟩
      refine ⟨b, [w1, w2], e1, sqtS A7.g e2, rfl, w1, [w2], rfl, w2, [], rfl, rfl, ?_⟩
      dsimp only at e3 e4
      cases e3
      cases e4
      have hnn := List.mem_of_getElem? en
      have hnlt := nums_lt hnn
      have eo' : o = oth d.web q n := by
        rw [List.getElem?_map, en] at eo
        exact (Option.some.inj eo).symm
      have hol : o < d.web.many := by rw [eo']; exact oth_lt ok hnn
      have ex : (nears d.web q)[i]? = some (n, o) := by
        unfold nears
        rw [List.getElem?_map, en, eo']
        rfl
      have hso := sz_le ok o
      have hoff := off_le ex
      dsimp only at hoff
      generalize eb : (foldT d q i).2 = off at hoff
      have hst : foldT d q (i + 1) = ((foldT d q i).1.set n (newTab d q off (sz d o)), off + sz d o) := by rw [foldT_succ ex, ← eb]; rfl
      have S7 := S6.trans (s7.trans s8)
      have kS : Same G5 G'' := s6.trans (s7.trans s8)
      have eso : ∀ {σ : L2.St} {G8 : Hp} (h0 : σ[0]? = some (some v1)) (h13 : σ[13]? = some (some (V.int (o : Int)))) (s : Same G'' G8), Ev (tOp (rIx K) (tFld K (tVar 0) "sizes") (tVar 13)) σ G8 no RN (sz d o) := fun h0 h13 s => ev_ixT (n := o) (ev_pSizes T (ev_var h0 (mn (S7.trans s) r1))) (ev_var (R := RN) (x := o) h13 rfl).ni rfl (getD_some (by omega) 0)
      refine s_asg (L := no) A7 no_sub (R := RL K (RL K RI)) (x := (kept d q).map fun r => cutN r (some off) (some (off + sz d o))) (EvF.ev (ef_lcX (R := RL K RI) (S := RL K RI) (ei_seqL (ev_var rfl (mn kS r10))) (fun r => cutN r (some off) (some (off + sz d o))) (by omega) fun r u G8 hr' s10 q10 => EvF.ev (ev_slL (ev_var rfl q10) (eo_some (ev_var (R := RN) rfl rfl)) (eo_some ((ev_add (ev_var (R := RN) (x := off) rfl rfl).ni (eso rfl rfl s10).ni).inn (by omega)))))) fun v14 G8 H8 s10 A8 r14 => ?_
      have hcl : ∀ r ∈ (kept d q).map fun r => cutN r (some off) (some (off + sz d o)), r.length = sz d o := fun r hr => by
        obtain ⟨r', hr', e⟩ := List.mem_map.mp hr
        subst e
        exact cut_len (by rw [(kept_wr ok r' hr').1]; exact hoff)
      have hlen : vs.length = d.tabs.length := by rw [Paired.len p]; unfold rowsOf; rw [List.length_map, foldT_len]
      refine s_seti (L := no) A8 no_sub (k := 11) rfl (l := l) (vs := vs) upd_same (R := RL K (RL K RI)) (x := newRows d q off (sz d o)) (ev_if (b := isE d.web q) (et_B (ev_var (R := RB) rfl rfl)) (fun hb => ?_) fun hb => ?_) (ev_var (R := RN) rfl rfl).ni (j := n) rfl (by omega) fun v15 G9 H9 s11 A9 r15 => ?_
      · have e : newRows d q off (sz d o) = (List.range (sz d o)).map fun c => ((kept d q).map fun r => cutN r (some off) (some (off + sz d o))).map fun r => ix r c := by unfold newRows; rw [hb]; rfl
        rw [e]
        refine EvF.ev (ef_lcR (S := RL K RI) (eso rfl rfl s10) (by omega) (fun c => ((kept d q).map fun r => cutN r (some off) (some (off + sz d o))).map fun r => ix r c) fun c u G10 hc s12 q12 => EvF.ev (ef_lcX (R := RL K RI) (S := RI) (ei_seqL (ev_var rfl (mn s12 r14))) (fun r => ix r c) (by rw [List.length_map]; omega) fun r u' G11 hr' s13 q13 => ev_ixL (n := c) (ev_var rfl q13) (ev_var (R := RN) rfl (mn s13 q12)).ni rfl (ix_some (by rw [hcl r hr']; exact hc))))
      · have e : newRows d q off (sz d o) = (kept d q).map fun r => cutN r (some off) (some (off + sz d o)) := by unfold newRows; rw [hb]; rfl
        rw [e]
        exact ev_var rfl r14
      · rw [upd_upd] at A9
        refine s_asg (L := no) A9 no_sub (R := RN) (x := off + sz d o) ((ev_add (ev_var (R := RN) (x := off) rfl rfl).ni (eso rfl rfl (s10.trans s11)).ni).inn (by omega)) fun v16 G10 H10 s12 A10 r16 => ?_
        cases r16
        have S9 := s10.trans (s11.trans s12)
        refine ⟨G10, _, s9.trans S9, A10, (s7.trans s8).trans S9, vs.set n v15, some (.int (n : Int)), some (.int (o : Int)), some v14, ?_, rfl, ?_⟩
        · rw [hst]
          rfl
        · rw [hst]
          unfold rowsOf
          rw [List.map_set]
          exact pset (mn s12 r15) n (pairedS (s8.trans S9) p)
    · rintro σ' G' F' H' s7 A7 ⟨s8, vs, u12, u13, u14, rfl, rfl, p⟩
      have A8 := A7.freezeN n1
      have s9 : Same G' (upd G' l (.lst vs)) := same_new (A7.d l _ upd_same)
      have rl : RL K (RL K (RL K RI)) (upd G' l (.lst vs)) (.ref l) (rowsOf (foldT d q (nears d.web q).length).1) := ⟨l, vs, rfl, .inl (.inl upd_same), pairedS s9 p⟩
      have S8 := S6.trans (s8.trans s9)
      have kS : Same G5 (upd G' l (.lst vs)) := s6.trans (s8.trans s9)
      have hc1 := cut_le d.sizes none (some q)
      have hc2 := cut_le d.sizes (some (q + 1)) none
      refine s_asg (L := no) A8 no_sub (R := RT K RN) (x := cutN d.sizes none (some q) ++ [(kept d q).length] ++ cutN d.sizes (some (q + 1)) none) (ev_catA (ev_catA (ev_slT (ev_pSizes T (ev_var rfl (mn S8 r1))) eo_none (eo_some (ev_var (R := RN) rfl rfl))) (ev_tup (ea_consR ((ev_lenL (ev_var rfl (mn kS r10))).inn rfl) ea_nilR) (by simp)) (by simp; omega)) (ev_slT (ev_pSizes T (ev_var rfl (mn S8 r1))) (eo_some ((ev_add (ev_var (R := RN) (x := q) rfl rfl).ni ev_i).inn (by omega))) eo_none) (by simp; omega)) fun v15 G9 H9 s10 A9 r15 => ?_
      have S9 := S8.trans s10
      refine s_ret (L := no) A9 no_sub (R := R3 K (RT K RN) (RL K (RL K (RL K RI))) RI) (x := ((turnP d q).sizes, rowsOf (turnP d q).tabs, lostN d q)) (ev_tup3 (ev_var rfl r15) (ev_var rfl (mn s10 rl)) (ev_sub (ev_ixT (n := q) (x := sz d q) (ev_pSizes T (ev_var rfl (mn S9 r1))) (ev_var (R := RN) rfl rfl).ni rfl (getD_some (by omega) 0)).ni (ev_lenL (ev_spanned (wd := gw d q) (ev_var (R := RI) rfl rfl) (ev_var rfl (mn ((s3.trans s4).trans (s5.trans (kS.trans s10))) r7)) ok.p (glued_wr ok) (by omega) (by omega))))) fun v G10 H10 s11 A10 q11 => ?_
      exact k v G10 H10 (S6.trans (s7.trans (s9.trans (s10.trans s11)))) A10 q11
end
end MW

set_option Elab.async false
set_option linter.all false
set_option maxRecDepth 100000
set_option maxHeartbeats 4000000
/-! Walks: one place of a picture is right. -/
namespace MW
open PySem PySem.Spec PyProof.Rows L2
theorem k_eqM2 {X : Cx} {K : Fg} {C : Addr} {ps : List Str} {k : Nat} {sp : Sp} (M : Md X.prog X.w X.K X.mg X.base CX0 C "__eq__" ps k sp) (hK : X.K = K) (hr : Room k X.A) : OpR X (compareOp .Eq) (rEqM K C sp) := k_eqM (P := X.prog) (w := X.w) (mg := X.mg) (base := X.base) M hK hr
theorem okWeb_turn {d : WebD} (ok : okWeb d) (q : Nat) : okWeb (turnW d q) where
  m1 := ok.m1
  m2 := ok.m2
  a := by unfold turnW; rw [List.length_map]; exact ok.a
  b := fun p hp => by
    obtain ⟨x, hx, e⟩ := List.mem_map.mp hp
    have := ok.b x hx
    subst e
    unfold turnA
    show (if [x.1, x.2].contains q = true then (x.2, x.1) else x).1 < d.many ∧ (if [x.1, x.2].contains q = true then (x.2, x.1) else x).2 < d.many
    split
    · exact ⟨this.2, this.1⟩
    · exact this
theorem fold_rows {d : PicD} (ok : okPic d) {q : Nat} : ∀ k, k ≤ (nears d.web q).length → ∀ t ∈ (foldT d q k).1, t.rows.length ≤ 1000
  | 0, _, t, ht => by
    have ht : t ∈ d.tabs := ht
    obtain ⟨i, hi⟩ := List.getElem?_of_mem ht
    have hil := (List.getElem?_eq_some_iff.mp hi).1
    have e : tb d i = t := by unfold tb; simp [List.getD, hi]
    have htl := ok.tl
    have h := (ok.t i (by omega)).2.1
    rw [e] at h
    have := sz_le ok (ar d.web i).2
    omega
  | k + 1, hk, t, ht => by
    have hx : (nears d.web q)[k]? = some ((nears d.web q)[k]'(by omega)) := List.getElem?_eq_getElem (by omega)
    rw [foldT_succ hx] at ht
    generalize (nears d.web q)[k] = x at ht
    have ht : t ∈ (foldT d q k).1.set x.1 (newTab d q (foldT d q k).2 (sz d x.2)) := ht
    rcases List.mem_or_eq_of_mem_set ht with h | h
    · exact fold_rows ok k (by omega) t h
    · subst h
      have h1 := kept_le ok (q := q)
      have h2 := gw_le ok q
      have h3 := sz_le ok x.2
      show (newRows d q _ _).length ≤ 1000
      unfold newRows
      split
      · rw [tr_len]; omega
      · rw [List.length_map]; omega
section
variable {P : Program} {w : World} {K : Fg} {mg : Str → Option Value} {base : Heap} {a : Adr}
theorem ev_turned {σ : L2.St} {G L : Hp} {ta tb : TE} {E : XK} {d : PicD} {q : Nat} (h1 : Ev ta σ G L (RPic K a) d) (h2 : Ev tb σ G L RN q) (ok : okPic d) (hq : q < d.web.many) (ht : isT d.web q = true) : Ev (tCall (spLTurned K a) [] E (tCons ta (tCons tb tNil))) σ G L (R3 K (RT K RN) (RL K (RL K (RL K RI))) RI) ((turnP d q).sizes, rowsOf (turnP d q).tabs, lostN d q) :=
  ev_call (d, q) (ea2 h1 h2) (fun G' vs s ⟨z1, z2, e, q1, q2⟩ => ⟨z1, z2, e, q1, q2, ok, hq, ht⟩) fun _ _ _ q => q
theorem ev_ix32 {α β γ : Type} {R : Rel α} {S : Rel β} {T : Rel γ} [Mn R] [Mn S] [Mn T] {σ : L2.St} {G L : Hp} {ta : TE} {p : α × β × γ} (ha : Ev ta σ G L (R3 K R S T) p) : Ev (tOp (rIx K) ta (tC (.int 2))) σ G L T p.2.2 :=
  ev_bin ha ev_i fun v u G1 F H _ _ A r s Q q => by
    obtain ⟨a, v1, v2, v3, rfl, h2, h3, h4, h5⟩ := r
    cases s
    exact .inr (.inl ⟨a, _, 2, v3, rfl, rfl, sqtS A.g h2, rfl, q v3 G1 H (Same.refl _) A h5⟩)

/-! _law_is_turned -/
-- 0 _law_told 1 _law_picture_here 2 _law_place 3 _law_sizes 4 _law_tables 5 _law_less_here 6 _law_arrows 7 _law_a 8 _law_b 9 _law_table 10 _law_row; cells _law_place
abbrev sLIsTurned : Stmt := top 65
abbrev nLIsTurned : List Str := ["_law_told", "_law_picture_here", "_law_place", "_law_sizes", "_law_tables", "_law_less_here", "_law_arrows", "_law_a", "_law_b", "_law_table", "_law_row"]
abbrev pLIsTurned : List Str := ["_law_told", "_law_picture_here", "_law_place"]
theorem scLIsTurned : FnScope nLIsTurned pLIsTurned (defScope sLIsTurned) := ⟨rfl, rfl, rfl, by decide +kernel, rfl, by decide +kernel, by decide +kernel⟩
def spLIsTurned (K : Fg) (a : Adr) : Sp := SpP (ι := PicD × Nat) (fun i G vs => ∃ v1 v2 v3, vs = [v1, v2, v3] ∧ RPicR K a G v1 (turnP i.1 i.2) ∧ RPic K a G v2 i.1 ∧ RN G v3 i.2 ∧ okPic i.1 ∧ i.2 < i.1.web.many ∧ isT i.1.web i.2 = true) (fun i G v => RB G v true)
theorem ok_LIsTurned (T : Txt K mg a) (h : Has K mg "_law_is_turned" sLIsTurned pLIsTurned) (G__law_turned : Fd P w K mg base CX0 "_law_turned" pLTurned 4 (spLTurned K a)) (G_Web : Md P w K mg base CX0 a.Wb "__init__" pWebInit 4 (SpI a.Wb (fun d G ws => preWeb K d G ws ∧ okWeb d) (fsWeb K))) (G_eq : Md P w K mg base CX0 a.RWb "__eq__" pWebEq 1 (spWebEq K a)) : Fd P w K mg base CX0 "_law_is_turned" pLIsTurned 6 (spLIsTurned K a) := by
  refine h.ok scLIsTurned (fun vs H Q E h => ?_) (fun f cdv A outer s H vs Q E hr h => ?_)
  · obtain ⟨i, G, F, _, ⟨v1, v2, v3, rfl, _⟩, _⟩ := h
    rfl
  · obtain ⟨⟨d, q⟩, G, F, hA, ⟨v1, v2, v3, rfl, r1, r2, r3, ok, hq, ht⟩, k⟩ := h
    dsimp only at r1 r2 r3 ok hq ht
    cases r3
    have nd := scLIsTurned.nd
    refine ⟨_, (pss_cons (ps_asg (pe_fd G__law_turned (hr.mono (by decide)) (by rfl) (pa_cons (pv 1) (pa_cons (pv 2) pa_nil))) (k_tup (K := K) rfl rfl (pgs_cons (pg_name (i := 3) nd rfl (by first | exact Or.inl rfl | exact Or.inr rfl)) (pgs_cons (pg_name (i := 4) nd rfl (by first | exact Or.inl rfl | exact Or.inr rfl)) (pgs_cons (pg_name (i := 5) nd rfl (by first | exact Or.inl rfl | exact Or.inr rfl)) pgs_nil)))))
      (pss_cons (ps_set (i := 6) nd rfl (Or.inl rfl) (pe_callTy (k_tuple (K := K) rfl) (by rfl) T.btuple (by decide +kernel) (pa_cons (pe_lc (own := [("_law_a", 7), ("_law_b", 8)]) (g := (gTup K 2 (gCons (gName 7) (gCons (gName 8) gNil)))) (tt := tYes) rfl nd (k_seq (K := K) rfl (k_fld (K := K) rfl (k_fld (K := K) rfl (pv 1) rfl) rfl)) (blkOk_by (N := nLIsTurned) (sc := defScope sLIsTurned) (by decide +kernel)) (fun _ _ _ _ _ => (k_tup (K := K) rfl rfl (pgs_cons (pg_name (i := 7) nd rfl (by first | exact Or.inl rfl | exact Or.inr rfl)) (pgs_cons (pg_name (i := 8) nd rfl (by first | exact Or.inl rfl | exact Or.inr rfl)) pgs_nil)))) (fun _ _ _ _ _ => pts_nil) (fun _ _ _ _ _ => (pe_ifExp (pt_cmpR (k_in (K := K) rfl) (pv 2) (pe_tup (pa_cons (pv 7) (pa_cons (pv 8) pa_nil))) rfl) (pe_tup (pa_cons (pv 8) (pa_cons (pv 7) pa_nil))) (pe_tup (pa_cons (pv 7) (pa_cons (pv 8) pa_nil)))))) pa_nil)))
      (pss_cons (ps_if (PW.pt (pw_or (pt_not (pt_cmpR (k_eqM2 (K := K) G_eq rfl (hr.mono (by decide))) (k_fld (K := K) rfl (pv 0) rfl) (pe_mk T.cWb G_Web (hr.mono (by decide)) (by rfl) (pa_cons (k_fld (K := K) rfl (k_fld (K := K) rfl (pv 1) rfl) rfl) (pa_cons (pv 6) pa_nil))) (nomark _))) (pw_or (pt_cmpR op_ne (k_fld (K := K) rfl (pv 0) rfl) (k_fld (K := K) rfl (pv 1) rfl) (nomark _)) (pw_or1 (pt_cmpR (k_neD (K := K) rfl hr.units) (k_fld (K := K) rfl (pv 0) rfl) (pv 3) (nomark _))))))
        (pss_one (ps_ret pe_bl))
        pss_nil)
      (pss_one (ps_ret (pe_cmpR (k_eqD (K := K) rfl hr.units) (pe_lc (own := [("_law_table", 9)]) (g := (gName 9)) (tt := tYes) rfl nd (k_seq (K := K) rfl (k_fld (K := K) rfl (pv 0) rfl)) (blkOk_by (N := nLIsTurned) (sc := defScope sLIsTurned) (by decide +kernel)) (fun _ _ _ _ _ => (pg_name (i := 9) nd rfl (by first | exact Or.inl rfl | exact Or.inr rfl))) (fun _ _ _ _ _ => pts_nil) (fun _ _ _ _ _ => (pe_lc (own := [("_law_row", 10)]) (g := (gName 10)) (tt := tYes) rfl nd (k_seq (K := K) rfl (k_fld (K := K) rfl (pv 9) rfl)) (blkOk_by (N := nLIsTurned) (sc := (relS _ (defScope sLIsTurned))) (by decide +kernel)) (fun _ _ _ _ _ => (pg_name (i := 10) nd rfl (by first | exact Or.inl rfl | exact Or.inr rfl))) (fun _ _ _ _ _ => pts_nil) (fun _ _ _ _ _ => (pe_callTy (k_list (K := K) rfl) (by rfl) T.blist (by decide +kernel) (pa_cons (pv 10) pa_nil)))))) (pv 4) (nomark _))))))), ?_⟩
    have ha := ok.web.a
    have htl := ok.tl
    refine s_asg3 (L := no) hA no_sub (ev_turned (ev_var rfl r2) (ev_var (R := RN) rfl rfl) ok hq ht) fun v4 v5 v6 G1 H1 s1 A1 r4 r5 r6 => ?_
    refine s_asg (L := no) A1 no_sub (R := RT K (RP K RN RN)) (x := (turnW d.web q).arrows) (ev_tupL (EvF.ev (ef_lcP (R := RN) (S := RN) (T := RP K RN RN) (ei_seqT (ev_wArr T (ev_pWeb T (ev_var rfl (mn s1 r2))))) (turnA q) (by omega) fun x u1 u2 G2 hx s2 q1 q2 => ?_))) fun v7 G2 H2 s2 A2 r7 => ?_
    · refine ev_if (b := [x.1, x.2].contains q) (et_test ((ev_inT (neg := false) (n := (q : Int)) (ev_var (R := RN) rfl rfl).ni (Ev.rtn (ns := [x.1, x.2]) (ev_tup (ea_consR (ev_var rfl q1) (ea_consR (ev_var rfl q2) ea_nilR)) (by simp)))).is (contains_cast q _))) (fun hb => ?_) fun hb => ?_
      · exact (ev_tup2 (ev_var rfl q2) (ev_var rfl q1)).is (by unfold turnA; rw [hb]; rfl)
      · exact (ev_tup2 (ev_var rfl q1) (ev_var rfl q2)).is (by unfold turnA; rw [hb]; rfl)
    have S2 := s1.trans s2
    have r1' := mn S2 r1
    have r2' := mn S2 r2
    refine s_no (L := no) A2 no_sub (EvT.is (et_or (a := false) (b := false) ((et_not (et_test ((ev_eqW T (d := turnW d.web q) (e := turnW d.web q) (ev_pWebR T (d := turnP d q) (ev_var rfl r1')) (ev_web (turnW d.web q) (okWeb_turn ok.web q) (ev_wMany T (d := d.web) (ev_pWeb T (ev_var rfl r2'))) (ev_var rfl r7))).is (decide_eq_true rfl)))).is rfl) fun _ => EvT.is (et_or (a := false) (b := false) (et_test ((ev_neI (i := d.p) (j := d.p) (ev_pPrime T (d := turnP d q) (Ev.ofR (ev_var rfl r1'))) (ev_pPrime T (ev_var rfl r2'))).is (by simp))) fun _ => et_test ((ev_neD (R := RT K RN) (x := (turnP d q).sizes) (y := (turnP d q).sizes) (ev_pSizes T (Ev.ofR (ev_var rfl r1'))) (ev_var rfl (mn s2 r4)) (Nat.le_of_ble_eq_true rfl)).is (by simp))) rfl) rfl) fun G3 H3 s3 A3 => ?_
    have S3 := S2.trans s3
    have hfl : (turnP d q).tabs.length = d.tabs.length := foldT_len _
    refine s_ret (L := no) A3 no_sub (R := RB) (x := true) ((ev_eqD (R := RL K (RL K (RL K RI))) (x := rowsOf (turnP d q).tabs) (y := rowsOf (turnP d q).tabs) (EvF.ev (ef_lcX (R := RTab K a) (S := RL K (RL K RI)) (ei_seqT (ev_pTabs T (Ev.ofR (ev_var rfl (mn S3 r1))))) TabD.rows (by omega) fun t u G6 ht' s6 q6 => ?_)) (ev_var rfl (mn (s2.trans s3) r5)) (Nat.le_of_ble_eq_true rfl)).is (decide_eq_true rfl)) fun v G' H' s A q => k v G' H' (S3.trans s) A q
    have hrl := fold_rows ok (nears d.web q).length (Nat.le_refl _) t ht'
    exact Ev.is (EvF.ev (ef_lcX (R := RT K RI) (S := RL K RI) (ei_seqT (ev_tRows T (ev_var rfl q6))) (fun r => r) (by omega) fun r u' G7 hr' s7 q7 => EvF.ev (ef_lstT (ev_var rfl q7)))) (List.map_id' _)

/-! _law_at_place_right -/
-- 0 _law_picture_here 1 _law_place 2 _law_told 3 _law_is_end 4 _law_numbers 5 _law_beyond 6 _law_less_here 7 _law_at; cells _law_is_end _law_picture_here
abbrev sLAtPlaceRight : Stmt := top 70
abbrev nLAtPlaceRight : List Str := ["_law_picture_here", "_law_place", "_law_told", "_law_is_end", "_law_numbers", "_law_beyond", "_law_less_here", "_law_at"]
abbrev pLAtPlaceRight : List Str := ["_law_picture_here", "_law_place"]
theorem scLAtPlaceRight : FnScope nLAtPlaceRight pLAtPlaceRight (defScope sLAtPlaceRight) := ⟨rfl, rfl, rfl, by decide +kernel, rfl, by decide +kernel, by decide +kernel⟩
theorem turn_at {d : PicD} (ok : okPic d) {q : Nat} (hq : q < d.web.many) : (turnP d q).sizes[q]? = some (kept d q).length := by
  have hsl := ok.sl
  have hc : (cutN d.sizes none (some q)).length = q := by
    unfold cutN
    simp
    omega
  show (cutN d.sizes none (some q) ++ [(kept d q).length] ++ cutN d.sizes (some (q + 1)) none)[q]? = _
  rw [List.append_assoc, List.getElem?_append_right (by omega), hc]
  simp
def spLAtPlaceRight (K : Fg) (a : Adr) : Sp := SpP (prePT K a) (fun i G v => RB G v true)
theorem ok_LAtPlaceRight (T : Txt K mg a) (h : Has K mg "_law_at_place_right" sLAtPlaceRight pLAtPlaceRight) (G_turn : Fd P w K mg base (L2.CX P w) "turn" pTurn 9 (spTurn K a)) (G__law_is_turned : Fd P w K mg base CX0 "_law_is_turned" pLIsTurned 6 (spLIsTurned K a)) (G_turned_web : Fd P w K mg base (L2.CX P w) "turned_web" pTurnedWeb 6 (spTurnedWeb K a)) (G__law_sides : Fd P w K mg base CX0 "_law_sides" pLSides 1 (spLSides K a)) (G_lost : Fd P w K mg base (L2.CX P w) "lost" pLost 7 (spLost K a)) (G__law_turned : Fd P w K mg base CX0 "_law_turned" pLTurned 4 (spLTurned K a)) (G_eq : Md P w K mg base CX0 a.RWb "__eq__" pWebEq 1 (spWebEq K a)) : Fd P w K mg base CX0 "_law_at_place_right" pLAtPlaceRight 10 (spLAtPlaceRight K a) := by
  refine h.ok scLAtPlaceRight (fun vs H Q E h => ?_) (fun f cdv A outer s H vs Q E hr h => ?_)
  · obtain ⟨i, G, F, _, ⟨v1, v2, rfl, _⟩, _⟩ := h
    rfl
  · obtain ⟨⟨d, q⟩, G, F, hA, ⟨v1, v2, rfl, r1, r2, ok, hq, ht⟩, k⟩ := h
    dsimp only at r1 r2 ok hq ht
    cases r2
    have nd := scLAtPlaceRight.nd
    refine ⟨_, (pss_cons (ps_set (i := 2) nd rfl (Or.inl rfl) (pe_fdL G_turn (hr.mono (by decide)) (by rfl) (pa_cons (pv 0) (pa_cons (pv 1) pa_nil))))
      (pss_cons (ps_if (PW.pt (pw_or (pt_not (pt_val (pe_callB (k_isi (K := K) rfl) (by rfl) T.bisinstance (by decide +kernel) (pa_cons (pv 2) (pa_cons (pe_glob (v := .ref a.Pc) (by rfl) T.cPc.mg rfl) pa_nil))))) (pw_or1 (pt_not (pt_val (pe_fd G__law_is_turned (hr.mono (by decide)) (by rfl) (pa_cons (pv 2) (pa_cons (pv 0) (pa_cons (pv 1) pa_nil)))))))))
        (pss_one (ps_ret pe_bl))
        pss_nil)
      (pss_cons (ps_if (pt_not (pt_cmpR (k_eqM2 (K := K) G_eq rfl (hr.mono (by decide))) (pe_fdL G_turned_web (hr.mono (by decide)) (by rfl) (pa_cons (k_fld (K := K) rfl (pv 0) rfl) (pa_cons (pv 1) pa_nil))) (k_fld (K := K) rfl (pv 2) rfl) (nomark _)))
        (pss_one (ps_ret pe_bl))
        pss_nil)
      (pss_cons (ps_asg (pe_fd G__law_sides (hr.mono (by decide)) (by rfl) (pa_cons (pv 0) (pa_cons (pv 1) pa_nil))) (k_tup (K := K) rfl rfl (pgs_cons (pg_name (i := 3) nd rfl (by first | exact Or.inl rfl | exact Or.inr rfl)) (pgs_cons (pg_name (i := 4) nd rfl (by first | exact Or.inl rfl | exact Or.inr rfl)) pgs_nil))))
      (pss_cons (ps_set (i := 5) nd rfl (Or.inl rfl) (pe_callB (k_sum (K := K) rfl rfl) (by rfl) T.bsum (by decide +kernel) (pa_cons (pe_lc (own := [("_law_at", 7)]) (g := (gName 7)) (tt := tYes) rfl nd (k_seq (K := K) rfl (pv 4)) (blkOk_by (N := nLAtPlaceRight) (sc := defScope sLAtPlaceRight) (by decide +kernel)) (fun _ _ _ _ _ => (pg_name (i := 7) nd rfl (by first | exact Or.inl rfl | exact Or.inr rfl))) (fun _ _ _ _ _ => pts_nil) (fun _ _ _ _ _ => (pe_ix (k_ix (K := K) rfl) (k_fld (K := K) rfl (pv 0) rfl) (pe_ix (k_ix (K := K) rfl) (pe_ix (k_ix (K := K) rfl) (k_fld (K := K) rfl (k_fld (K := K) rfl (pv 0) rfl) rfl) (pv 7) (fun _ _ => rfl)) (pe_callTy call_int1 (by rfl) T.bint (by decide +kernel) (pa_cons (pe_not (pv 3)) pa_nil)) (fun _ _ => rfl)) (fun _ _ => rfl)))) pa_nil)))
      (pss_cons (ps_set (i := 6) nd rfl (Or.inl rfl) (pe_fdL G_lost (hr.mono (by decide)) (by rfl) (pa_cons (pv 0) (pa_cons (pv 1) pa_nil))))
      (pss_cons (ps_if (PW.pt (pw_or (pt_val (pe_callB (k_isi (K := K) rfl) (by rfl) T.bisinstance (by decide +kernel) (pa_cons (pv 6) (pa_cons (pe_bltn (v := .ty "bool") (by rfl) T.bbool (by decide +kernel) rfl) pa_nil)))) (pw_or1 (pt_cmpR op_ne (pv 6) (pe_ix (k_ix (K := K) rfl) (pe_fd G__law_turned (hr.mono (by decide)) (by rfl) (pa_cons (pv 0) (pa_cons (pv 1) pa_nil))) pe_int (fun _ _ => rfl)) (nomark _)))))
        (pss_one (ps_ret pe_bl))
        pss_nil)
      (pss_one (ps_ret (pe_cmpR op_eq (pe_ix (k_ix (K := K) rfl) (k_fld (K := K) rfl (pv 2) rfl) (pv 1) (fun _ _ => rfl)) (pe_op op_sub (pv 5) (pe_op op_sub (pe_ix (k_ix (K := K) rfl) (k_fld (K := K) rfl (pv 0) rfl) (pv 1) (fun _ _ => rfl)) (pv 6))) (nomark _))))))))))), ?_⟩
    have ha := ok.web.a
    have hsl := ok.sl
    have hnl := @nums_len d.web q
    have hok : okT d.web (some (q : Int)) = true := by rw [okT_nat hq]; exact ht
    have hro : ∀ {σ : L2.St} {G : Hp}, σ[1]? = some (some (V.int (q : Int))) → Ev (tVar 1) σ G no (RO K) (some (q : Int)) := fun h => Ev.ro (ev_var (R := RN) h rfl).ni
    refine s_asg (L := no) hA no_sub (R := RPicR K a) (x := turnP d q) (ev_callX (d, some (q : Int)) (ea2 (R := RPic K a) (ev_var rfl r1) (hro rfl)) (fun G' vs s ⟨z1, z2, e, q1, q2⟩ => ⟨z1, z2, e, q1, q2, ok⟩) hok fun _ _ _ q => q) fun v3 G1 H1 s1 A1 r3 => ?_
    refine s_no (L := no) A1 no_sub (EvT.is (et_or (a := false) (b := false) ((et_not (et_B (b := true) (ev_isPic T (Ev.ofR (ev_var rfl r3))))).is rfl) fun _ => (et_not (et_B (b := true) (ev_call (R := RB) (d, q) (ea3 (R := RPicR K a) (S := RPic K a) (U := RN) (ev_var rfl r3) (ev_var rfl (mn s1 r1)) (ev_var rfl rfl)) (fun G' vs s ⟨z1, z2, z3, e, q1, q2, q3⟩ => ⟨z1, z2, z3, e, q1, q2, q3, ok, hq, ht⟩) fun _ _ _ q => q))).is rfl) rfl) fun G2 H2 s2 A2 => ?_
    have S2 := s1.trans s2
    refine s_no (L := no) A2 no_sub (EvT.is (et_not (et_test (ev_eqW T (d := turnW d.web q) (e := turnW d.web q) (ev_callX (d.web, some (q : Int)) (ea2 (R := RWeb K a) (ev_pWeb T (ev_var rfl (mn S2 r1))) (hro rfl)) (fun G' vs s ⟨z1, z2, e, q1, q2⟩ => ⟨z1, z2, e, q1, q2, ok.web⟩) hok fun _ _ _ q => q) (Ev.ofW (ev_pWebR T (d := turnP d q) (ev_var rfl (mn s2 r3))))))) (by simp)) fun G3 H3 s3 A3 => ?_
    have S3 := S2.trans s3
    refine s_asg2 (L := no) A3 no_sub (ev_sides (ev_var rfl (mn S3 r1)) (ev_var (R := RN) rfl rfl) ok hq ht) fun v4 v5 G4 H4 s4 A4 r4 r5 => ?_
    cases r4
    have S4 := S3.trans s4
    have esum : ((nums d.web q).map fun n => (sz d (oth d.web q n) : Int)).sum = (gw d q : Int) := by
      unfold gw
      rw [← sum_nat, List.map_map]
      rfl
    refine s_asg (L := no) A4 no_sub (R := RN) (x := gw d q) ((ev_sum (ns := (nums d.web q).map fun n => (sz d (oth d.web q n) : Int)) (EvF.ev (ef_lcX (R := RN) (S := RI) (ei_seqL (ev_var rfl r5)) (fun n => (sz d (oth d.web q n) : Int)) (by omega) fun n u G5 hn s5 q5 => ?_))).inn esum) fun v6 G5 H5 s5 A5 r6 => ?_
    · have hlt := oth_lt ok hn
      have hlt2 := nums_lt hn
      have r1' := mn (S4.trans s5) r1
      refine (ev_ixT (n := oth d.web q n) (ev_pSizes T (ev_var rfl r1')) (Ev.ni (n := oth d.web q n) (ev_ixT (n := if isE d.web q then 0 else 1) (xs := [(ar d.web n).1, (ar d.web n).2]) (Ev.pt (ev_ixT (n := n) (x := ar d.web n) (ev_wArr T (ev_pWeb T (ev_var rfl r1'))) (ev_var (R := RN) rfl q5).ni rfl (getD_some hlt2 (0, 0)))) (ev_intB (ev_notV (ev_var (R := RB) rfl rfl))) ?_ ?_)) rfl (getD_some (by omega) 0)).ni
      · cases isE d.web q <;> rfl
      · unfold oth
        cases isE d.web q <;> rfl
    cases r6
    refine nq ?_
    refine s_asg (L := no) A5 no_sub (R := RI) (x := lostN d q) (ev_callX (d, some (q : Int)) (ea2 (R := RPic K a) (ev_var rfl (mn (S4.trans s5) r1)) (hro rfl)) (fun G' vs s ⟨z1, z2, e, q1, q2⟩ => ⟨z1, z2, e, q1, q2, ok⟩) hok fun _ _ _ q => q) fun v7 G6 H6 s6 A6 r7 => ?_
    cases r7
    have S6 := (S4.trans s5).trans s6
    refine nq ?_
    refine s_no (L := no) A6 no_sub (EvT.is (et_or (a := false) (b := false) (et_B (ev_isTy (t := "int") (b := false) (Ev.tyI (ev_var (R := RI) (x := lostN d q) rfl rfl)) (by decide +kernel))) fun _ => et_test ((ev_neI (i := lostN d q) (j := lostN d q) (ev_var (R := RI) rfl rfl) (ev_ix32 (ev_turned (ev_var rfl (mn S6 r1)) (ev_var (R := RN) rfl rfl) ok hq ht))).is (by simp))) rfl) fun G7 H7 s7 A7 => ?_
    have S7 := S6.trans s7
    refine s_ret (L := no) A7 no_sub (R := RB) (x := true) ((ev_eqI (i := ((kept d q).length : Int)) (j := (gw d q : Int) - ((sz d q : Int) - lostN d q)) (ev_ixT (n := q) (ev_pSizes T (d := turnP d q) (Ev.ofR (ev_var rfl (mn (s2.trans (s3.trans (s4.trans (s5.trans (s6.trans s7))))) r3)))) (ev_var (R := RN) rfl rfl).ni rfl (turn_at ok hq)).ni (ev_sub (ev_var (R := RN) rfl rfl).ni (ev_sub (ev_ixT (n := q) (x := sz d q) (ev_pSizes T (ev_var rfl (mn S7 r1))) (ev_var (R := RN) rfl rfl).ni rfl (getD_some (by omega) 0)).ni (ev_var (R := RI) rfl rfl)))).is (decide_eq_true ?_)) fun v G' H' s A q => k v G' H' (S7.trans s) A q
    have := ker_len ok.p.fp (glued_wr ok (q := q))
    unfold lostN kept
    omega
end
end MW

set_option Elab.async false
set_option linter.all false
set_option maxRecDepth 100000
set_option maxHeartbeats 4000000
/-! The law's word: what a call lets out. -/
namespace MW
open PySem PySem.Spec PyProof.Rows L2
/-! _law_word -/
-- 0 _law_call 1 _law_word_here 2 error 3 _law_flags 4 _law_names; cells 
abbrev sLWord : Stmt := top 69
abbrev nLWord : List Str := ["_law_call", "_law_word_here", "error", "_law_flags", "_law_names"]
abbrev pLWord : List Str := ["_law_call"]
theorem scLWord : FnScope nLWord pLWord (defScope sLWord) := ⟨rfl, rfl, rfl, by decide +kernel, rfl, by decide +kernel, by decide +kernel⟩
/-- what _law_word makes of the call that it got -/
def TTw (a : Adr) : (XK → Hp → VK → Prop) → Hp → VK → Prop := fun tl H Q =>
  tl (fun cls d H' => ∃ G F, At G F H' ∧ cls = .ref a.NT ∧ d = none ∧ ∀ G'' H'', Same G G'' → At G'' F H'' → Q (.str "turn") H'') H (fun _ H' => ∃ v, some (some (V.str "let")) = some (some v) ∧ Q v H')
theorem ev_isErr {K : Fg} {σ : L2.St} {G L : Hp} {D ae : Addr} {k : Nat} {c : V} {cv : Value} {b : Bool} (hk : σ[k]? = some (some (.ref ae))) (h1 : ∀ u, RelV c u → u = cv) (h2 : PySem.W.kitOne K (.ref D) cv = some b) : Ev (tCB (rIsE K D ae) (tCons (tVar k) (tCons (tC c) tNil))) σ G L RB b := fun G1 F H s c' A Q q =>
  ⟨_, hk, c, cv, b, rfl, h1, h2, q _ G1 H (Same.refl _) A rfl⟩
theorem ev_cnt {α : Type} {R : Rel α} [DecidableEq α] {K : Fg} [D : Dat K R] [Mn R] {σ : L2.St} {G L : Hp} {ta tb : TE} {xs : List α} {x : α} (ha : Ev ta σ G L (RL K R) xs) (hb : Ev tb σ G L R x) (hn : D.n < 64) : Ev (tBM K "list" (rCntD K) ta (tCons tb tNil)) σ G L RI ((xs.countP fun z => decide (z = x) : Nat) : Int) := fun G1 F H s c A Q q =>
  ha G1 F H s c A _ fun v G2 H2 s2 A2 ⟨l, vs, e, hq, p⟩ => ⟨by
    rw [e]
    exact tyV_lst (sqlS A2.g hq), hb G2 F H2 (s.trans s2) c A2 _ fun u G3 H3 s3 A3 r3 => by
    refine ⟨l, vs, u, D.f x, xs.map D.f, e, rfl, sqlS (s3.trans A3.g) hq, ?_, datS A3.g _ _ (D.dp r3), ?_, D.sh (by omega) x, ?_⟩
    · have q1 := dpAll (K := K) (R := R) p
      have : ∀ {vs : List V} {ds : List PyData}, DpAll K G2 vs ds → DpAll K H3 vs ds := fun {vs ds} h => by
        induction h using DpAll.rec (motive_1 := fun _ _ _ => True) with
        | nil => exact .nil
        | cons h1 _ _ ih => exact .cons (datS (s3.trans A3.g) _ _ h1) ih
        | _ => trivial
      exact this q1
    · unfold SeqAt.shaped
      rw [show PyData.canLay0 (.list (xs.map D.f)) = true by rw [PyData.canLay0]; exact clAll xs, Bool.true_and]
      refine decide_eq_true ?_
      rw [PyData.depth]
      have := deAll (D := D) xs
      omega
    · refine q _ G3 H3 (s2.trans s3) A3 ?_
      show V.int _ = V.int _
      have e2 : ((fun z => PyData.eqv z (D.f x)) ∘ D.f) = fun z => decide (z = x) := by
        funext z
        show PyData.eqv (D.f z) (D.f x) = decide (z = x)
        rw [Bool.eq_iff_iff, D.eq, decide_eq_true_iff]
      rw [List.countP_map, e2]⟩
where
  tyV_lst {K : Fg} {H : Hp} {x : Addr} {vs : List V} (h : SqL K H x vs) : tyV K "list" (.ref x) H := by
    exact .inl ⟨rfl, vs, h⟩
/-- [True].index(True) -/
theorem ev_idx1 {K : Fg} {σ : L2.St} {G L : Hp} {ta : TE} (ha : Ev ta σ G L (RL K RB) [true]) : Ev (tBM K "list" (rIndex K) ta (tCons (tC (.bl true)) tNil)) σ G L RI 0 := fun G1 F H s c A Q q =>
  ha G1 F H s c A _ fun v G2 H2 s2 A2 ⟨l, vs, e, hq, p⟩ => ⟨by
    rw [e]
    exact ev_cnt.tyV_lst (sqlS A2.g hq), by
    obtain rfl := pbools p
    exact ⟨l, _, .bl true, 0, .bl true, e, rfl, sqlS A2.g hq, rfl, rfl, rfl, rfl, fun m z' hm => absurd hm (Nat.not_lt_zero m), q _ G2 H2 s2 A2 rfl⟩⟩
def tSuite (K : Fg) (a : Adr) (ae : Addr) : TS :=
  tSeq (tAsg (tLst (tCons (tCB (rIsE K a.NT ae) (tCons (tVar 2) (tCons (tC (.ref a.NT)) tNil))) tNil)) (gName 3)) (tSeq (tAsg (tLst (tCons (tC (.str "turn")) tNil)) (gName 4))
    (tAsg (tIf (tAnd (tTest (tOp rEq (tBM K "list" (rCntD K) (tVar 3) (tCons (tC (.bl true)) tNil)) (tC (.int 1)))) (tB (tCB (rIsE K a.NT ae) (tCons (tVar 2) (tCons (tC (.ty "ValueError")) tNil))))) (tOp (rIx K) (tVar 4) (tBM K "list" (rIndex K) (tVar 3) (tCons (tC (.bl true)) tNil))) (tC (.str "other"))) (gName 1)))
theorem word_gives {X : Cx} {a : Adr} {k : Nat} (T : Txt X.K X.mg a) (hr : Room (k + 1) X.A) {q : Str} {g : Addr} {cdg : Value} : LamX.GivesTo X nLWord "_law_word" (defScope sLWord) g cdg (defBody sLWord) "_law_call" q (TTw a) := by
  intro f c' s H Q tl act hc h
  have nd := scLWord.nd
  refine ⟨_, pss_cons (ps_set (i := 1) nd rfl (Or.inl rfl) pe_str) (pss_cons (ps_try_as (X := (cxOf C8.CX0 X.prog X.w X.K X.mg X.base nLWord "_law_word" (defScope sLWord) g cdg X.A X.stack s H C8.E0).nox) (i := 2) (c := .ref a.WE)
      (tb := fun W D σ H => ∃ Ech : XK, (∀ cls d (σ' : L2.St) H', σ'.length = 5 → Ech cls d H' → W cls d σ' H') ∧ σ[0]? = some (some (.ref f)) ∧ H c' = some (LamX.CodeO c' q) ∧ tl Ech H (fun _ H' => D.nx σ H'))
      (ts := fun ae cls d D σ H => cls = .ref a.NT ∧ d = none ∧ tSuite X.K a ae D σ H)
      rfl rfl nd rfl rfl ⟨by rfl, by decide, .inl T.cWE⟩ LamX.takes0 (fun W pn xe tk _ => ?_) (fun ae oe cls d pn hz hf => ?_)) (pss_one (ps_ret (pv 1)))), ?_⟩
  · refine ⟨fun pins s' σ H' D I h' => ?_⟩
    obtain ⟨Ech, hW, h1, h2, h3⟩ := h'
    have hp := fun p1 p2 => act (fun cls d σ H => σ.length = 5 → W cls d σ H) pn xe Ech p1 p2 (fun u s' ⟨a, B, sI, pins, σ, H, cls, d, e, I, nb, up, sky, na, os, ag, w⟩ => tk u s' ⟨a, B, sI, pins, σ, H, cls, d, e, I, nb, up, sky, na, os, ag, w I.len⟩) fun cls d σ' H' e hl => hW cls d σ' H' hl e
    exact (pss_one (ps_expr (hp _ _))).run pins s' σ H' D I ⟨h1, h2, h3⟩
  · refine ⟨fun pins s' σ H' D I ⟨e1, e2, h'⟩ => ?_⟩
    subst e1 e2
    have hu : ((X.A.deeper (envOfC "_law_word" (defScope sLWord) s.heap.objs.size g cdg)).mark (some (.ref ae))).units + 65 < cLine := by
      show (X.A.deeper (envOfC "_law_word" (defScope sLWord) s.heap.objs.size g cdg)).units + 65 < cLine
      exact hu65 (hr.deeper _)
    refine PSs.run (X := (((cxOf C8.CX0 X.prog X.w X.K X.mg X.base nLWord "_law_word" (defScope sLWord) g cdg X.A X.stack s H C8.E0).nox).suite ae ((ae, oe) :: pn))) (t := tSuite X.K a ae) ?_ pins s' σ H' D I h'
    exact pss_cons (ps_set (i := 3) nd rfl (Or.inl rfl) (pe_lst (pa_cons (pe_callB (call_isE T.ecNT hz hf) (by rfl) T.bisinstance (by decide +kernel) (pa_cons (pv 2) (pa_cons (pe_glob (v := .ref a.NT) (by rfl) T.cNT rfl) pa_nil))) pa_nil)))
      (pss_cons (ps_set (i := 4) nd rfl (Or.inl rfl) (pe_lst (pa_cons pe_str pa_nil)))
      (pss_one (ps_set (i := 1) nd rfl (Or.inl rfl) (pe_ifExp (PW.pt (pw_and (pt_cmpR op_eq (k_bm rfl PySem.F.plainAttrs_list PySem.F.slot_list_count PySem.F.type_list_count (k_countD rfl hu) (pv 3) (pa_cons pe_bl pa_nil)) pe_int (nomark _)) (pw_and1 (pt_val (pe_callB (call_isE T.ecNT hz hf) (by rfl) T.bisinstance (by decide +kernel) (pa_cons (pv 2) (pa_cons (pe_bltn (v := .ty "ValueError") (by rfl) T.bValueError (by decide +kernel) rfl) pa_nil)))))))
        (pe_ix (k_ix rfl) (pv 4) (k_bm rfl PySem.F.plainAttrs_list PySem.F.slot_list_index PySem.F.type_list_index mt_index (pv 3) (pa_cons pe_bl pa_nil)) (fun _ _ => rfl)) pe_str))))
  · refine ⟨_, ?_, rfl, hc, h⟩
    rintro cls d σ' H' hl ⟨G, F, A, rfl, rfl, kk⟩
    obtain ⟨x0, x1, x2, x3, x4, rfl⟩ : ∃ x0 x1 x2 x3 x4, σ' = [x0, x1, x2, x3, x4] := by
      match σ', hl with
      | [x0, x1, x2, x3, x4], _ => exact ⟨x0, x1, x2, x3, x4, rfl⟩
    refine ⟨true, T.eNT, fun _ ae hae => ⟨rfl, rfl, ?_⟩, fun z => nomatch z⟩
    refine s_asg (L := no) A no_sub (R := RL X.K RB) (x := [true]) (EvF.ev (ef_lst (ea_consR (ev_isErr (c := .ref a.NT) (cv := .ref a.NT) rfl (fun u e => e) T.iNT) ea_nilR) (by simp))) fun v3 G1 H1 s1 A1 r3 => ?_
    refine nq ?_
    refine s_asg (L := no) A1 no_sub (R := RL X.K (RW1 "turn")) (x := [()]) (EvF.ev (ef_lst (ea_consR (ev_c fun _ => rfl) ea_nilR) (by simp))) fun v4 G2 H2 s2 A2 r4 => ?_
    refine s_asg (L := no) A2 no_sub (R := RW1 "turn") (x := ()) (ev_if (b := true) (et_and (a := true) (b := true) (et_test ((ev_eqI (i := 1) (j := 1) (ev_cnt (R := RB) (xs := [true]) (x := true) (ev_var rfl (mn s2 r3)) ev_bl (Nat.le_of_ble_eq_true rfl)) ev_i).is (by simp))) fun _ => et_B (ev_isErr (c := .ty "ValueError") (cv := .type "ValueError") rfl (fun u e => e) T.vNT)) (fun _ => ev_ixL (n := 0) (ev_var rfl r4) (ev_idx1 (ev_var rfl (mn s2 r3))) rfl rfl) fun z => nomatch z) fun v5 G3 H3 s3 A3 r5 => ?_
    cases r5
    exact ⟨_, rfl, kk G3 H3 (s1.trans (s2.trans s3)) A3⟩
end MW

set_option Elab.async false
set_option linter.all false
set_option maxRecDepth 100000
set_option maxHeartbeats 4000000
/-! A lambda handed to _law_word; what the law's own walk needs. -/
namespace MW
open PySem PySem.Spec PyProof.Rows L2
/-- the law's table of code objects, what is known of it -/
def TabG (q : Str) (G : Hp) (pt : Array Value) : Prop := TriplesOk pt.toList ∧ ∀ (pos : Pos) (cv : Value), codeAmong pos pt.toList = some cv → ∃ c, cv = .ref c ∧ G c = some (LamX.CodeO c q)
theorem TabG.mn {q : Str} {G G' : Hp} {pt : Array Value} (s : Same G G') (h : TabG q G pt) : TabG q G' pt := ⟨h.1, fun pos cv hc => let ⟨c, e1, e2⟩ := h.2 pos cv hc; ⟨c, e1, s _ _ e2⟩⟩
open Classical in
/-- all of H but F and the tables -/
noncomputable def rest (H F : Hp) : Hp := fun x => if F x = none ∧ ∀ ps, H x ≠ some (.tbl ps) then H x else none
theorem rest_some {H F : Hp} {x : Addr} {o : HO} (h : rest H F x = some o) : H x = some o ∧ F x = none ∧ ∀ ps, o ≠ .tbl ps := by
  unfold rest at h
  split at h
  · rename_i hc
    exact ⟨h, hc.1, fun ps z => hc.2 ps (by rw [h, z])⟩
  · cases h
theorem rest_mk {H F : Hp} {x : Addr} {o : HO} (h : H x = some o) (hf : F x = none) (ho : ∀ ps, o ≠ .tbl ps) : rest H F x = some o := by
  unfold rest
  rw [if_pos ⟨hf, fun ps z => ho ps (by rw [h] at z; exact Option.some.inj z)⟩]
  exact h
theorem rest_at {H F : Hp} (hf : Same F H) : At (rest H F) F H := ⟨fun x o e => (rest_some e).1, hf, fun x o e => (by
    cases h : rest H F x with
    | none => rfl
    | some u => exact absurd ((rest_some h).2.1.symm.trans e) (by simp)), fun x o e => (rest_some e).2.2⟩
section
variable {ι : Type} {K : Fg} {a : Adr} {σ : L2.St} {G F0 H : Hp} {P : Addr} {pt : Array Value} {q : Str} {ta : TA} {Pa : Hp → List V → Prop}
theorem lam_step {pre : ι → Hp → List V → Prop} {okB : ι → Bool} {post : ι → Hp → V → Prop} {Q : VK} (A : At G (upd F0 P (.tbl pt)) H) (hP : F0 P = none) (nc : ∀ x o, F0 x = some o → ∃ vs, o = .lst vs) (tg : TabG q G pt) (i : ι) (ha : EvA ta σ G no Pa) (h1 : ∀ G' vs, Same G G' → Pa G' vs → pre i G' vs) (hbad : okB i = false)
    (k : ∀ G' pt' H', Same G G' → TabG q G' pt' → At G' (upd F0 P (.tbl pt')) H' → Q (.str "turn") H') : LamX.tLam [(P, q)] (TTw a) (fun E => tCall (SpX a.NT pre okB post) [] E ta) σ H Q := by
  refine ⟨fun p hp => ?_, fun H1 ext tabs => ?_⟩
  · have e : p = (P, q) := by simpa using hp
    subst e
    exact ⟨pt, A.f _ _ upd_same, tg.1, fun pos cv hc => let ⟨c, e1, e2⟩ := tg.2 pos cv hc; ⟨c, e1, A.g _ _ e2⟩⟩
  · obtain ⟨pt1, t1, t2, t3⟩ := tabs (P, q) (by simp)
    dsimp only at t1 t2 t3
    have hf : Same (upd F0 P (.tbl pt1)) H1 := fun x o e => by
      by_cases hx : x = P
      · subst hx
        rw [upd_same] at e
        cases e
        exact t1
      · rw [upd_ne hx] at e
        obtain ⟨vs, rfl⟩ := nc x o e
        exact ext x _ (A.f x _ (by rw [upd_ne hx]; exact e)) fun ps z => nomatch z
    have A1 := rest_at hf
    have s1 : Same G (rest H1 (upd F0 P (.tbl pt1))) := fun x o e => by
      refine rest_mk (ext x o (A.g _ _ e) (A.t _ _ e)) ?_ (A.t _ _ e)
      by_cases hx : x = P
      · subst hx
        have := A.d _ _ (show upd F0 x (.tbl pt) x = some (.tbl pt) from upd_same)
        rw [this] at e
        cases e
      · rw [upd_ne hx]
        cases h : F0 x with
        | none => rfl
        | some u =>
          have := A.d x u (by rw [upd_ne hx]; exact h)
          rw [this] at e
          cases e
    have tg1 : TabG q (rest H1 (upd F0 P (.tbl pt1))) pt1 := ⟨t2, fun pos cv hc => by
      obtain ⟨c, e1, e2⟩ := t3 pos cv hc
      refine ⟨c, e1, rest_mk e2 ?_ fun ps => LamX.codeO_ne ps⟩
      cases h : upd F0 P (.tbl pt1) c with
      | none => rfl
      | some u =>
        have e3 := hf c u h
        rw [e2] at e3
        by_cases hx : c = P
        · subst hx
          rw [upd_same] at h
          cases h
          exact absurd (Option.some.inj e3) (LamX.codeO_ne _)
        · rw [upd_ne hx] at h
          obtain ⟨vs, rfl⟩ := nc c u h
          cases e3⟩
    show ta σ H1 _
    refine ha _ _ H1 s1 no_sub A1 _ fun vs G2 H2 s2 A2 p2 => ⟨i, G2, _, A2, by rw [List.append_nil]; exact h1 _ _ (s1.trans s2) p2, fun z => absurd (hbad.symm.trans z) (by decide), fun _ G' H' s3 A3 => ⟨G', _, A3, rfl, rfl, fun G'' H'' s4 A4 => k G'' pt1 H'' (s1.trans (s2.trans (s3.trans s4))) (tg1.mn (s2.trans (s3.trans s4))) A4⟩⟩
end
section
variable {α β ι : Type} {K : Fg} {σ : L2.St} {G F H L : Hp} {b : Addr} {te ta tb : TE} {tr : TA} {R : Rel α} {P P2 : Hp → V → Prop}
theorem ep_tup2 (m1 : ∀ G' G'' v, Same G' G'' → P G' v → P G'' v) (m2 : ∀ G' G'' v, Same G' G'' → P2 G' v → P2 G'' v) (h1 : EvP K ta σ G L b P) (h2 : EvP K tb σ G L b P2) : EvP K (tTup (tCons ta (tCons tb tNil))) σ G L b (fun G' v => ∃ x v1 v2, v = .ref x ∧ SqT K G' x [v1, v2] ∧ P G' v1 ∧ P2 G' v2) := fun G1 F H ps s c n p A Q q =>
  h1 G1 F H ps s c n p A _ fun v1 G2 ps2 H2 s2 p2 A2 r1 => h2 G2 F H2 ps2 (s.trans s2) c n p2 A2 _ fun v2 G3 ps3 H3 s3 p3 A3 r2 => ⟨(by show 2 ≤ sizeLine; decide), fun x hx =>
    have s4 := same_new (o := .tup [v1, v2]) (A3.nG hx)
    q _ _ ps3 _ (s2.trans (s3.trans s4)) (p3.mn s4) (A3.new hx) ⟨x, v1, v2, rfl, .inl (.inl upd_same), m1 _ _ _ (s3.trans s4) r1, m2 _ _ _ s4 r2⟩⟩
theorem ep_callC {pre : ι → Hp → List V → Prop} {post : ι → Hp → V → Prop} {E : XK} {ws : List V} (i : ι) (h1 : ∀ G', Same G G' → pre i G' ws) : EvP K (tCall (SpQ K pre post) [] E (cA (.ref b :: ws))) σ G L b (post i) := fun G1 F H ps s c n p A Q q =>
  ⟨i, G1, F, b, ps, ws, by rw [List.append_nil], n, p, A, h1 _ s, fun v G' ps' H' s3 p3 A3 r3 => q v G' ps' H' s3 p3 A3 r3⟩
/-- [..] + [e, ..], the second draws -/
theorem ep_catL [Mn R] {xs : List α} {Py : List α → Prop} {n : Nat} (h1 : EvF ta σ G L R xs) (h2 : EvAP K tr σ G L b (fun G' vs => ∃ ys, Paired (R G') vs ys ∧ ys.length = n ∧ Py ys)) (hx : xs.length ≤ 1000) (hn : n ≤ 1000) : EvP K (tOp rCat ta (tLst tr)) σ G L b (fun G' v => ∃ ys, RL K R G' v (xs ++ ys) ∧ Py ys) := fun G1 F H ps s c nb p A Q q =>
  h1 G1 _ H s (puL c nb) A _ fun D vs G2 H2 s2 n1 n2 A2 pp => by
    have Db := pu_lb n1
    have nD : F D = none := by rw [pu_ne Db] at n1; exact n1
    rw [pu_new Db] at A2
    have nbD : upd F D (.lst vs) b = none := by rw [upd_ne (Ne.symm Db)]; exact nb
    refine h2 G2 _ H2 ps (s.trans s2) (c.trans (same_new nD)) nbD (p.mn s2) A2 _ fun ws G3 ps3 H3 s3 p3 A3 ⟨ys, pw, hl, hy⟩ => ⟨Nat.le_trans (by rw [Paired.len pw, hl]; exact hn) (by decide), fun l hl' => ?_⟩
    have lD : l ≠ D := fun z => by
      have := A3.f D _ (pu_at Db)
      rw [← z, hl'] at this
      cases this
    refine ⟨D, l, vs, ws, rfl, rfl, by rw [upd_ne (Ne.symm lD)]; exact A3.f D _ (pu_at Db), upd_same, by rw [Paired.len pp, Paired.len pw, hl, sizeLine_eq]; omega, fun d hd => ?_⟩
    have A4 := A3.newF (o := .lst ws) hl'
    have nl : pu (upd F D (.lst vs)) b ps3 l = none := A3.nF hl'
    have A5 := A4.gone nl
    rw [← pu_new Db] at A5
    have A6 := A5.gone (by rw [pu_ne Db]; exact nD)
    have g3 := A6.nG hd
    have s4 := same_new (o := .lst (vs ++ ws)) g3
    exact q _ _ ps3 _ (s2.trans (s3.trans s4)) (p3.mn s4) (A6.new hd) ⟨ys, ⟨d, _, rfl, .inl (.inl upd_same), papp (pairedS (s3.trans s4) pp) (pairedS s4 pw)⟩, hy⟩
/-- [e] * n -/
theorem ef_rep1 [Mn R] {x : α} {n : Nat} (h1 : Ev te σ G L R x) (hn : n ≤ 1000) : EvF (tOp rRep (tLst (tCons te tNil)) (tC (.int (n : Int)))) σ G L R (List.replicate n x) := fun G1 F H s c A Q q =>
  ef_lst (ea_consR h1 ea_nilR) (by simp) G1 F H s c A _ fun D vs G2 H2 s2 n1 n2 A2 pp => by
    cases pp with
    | cons r t =>
      cases t
      rename_i w
      refine ⟨D, (n : Int), [w], rfl, rfl, A2.f D _ upd_same, by omega, by omega, by rw [sizeLine_eq, Int.toNat_natCast]; simp; omega, fun d hd => ?_⟩
      rw [Int.toNat_natCast, rep_flat]
      have A3 := A2.gone n1
      exact q d _ G2 _ s2 (A3.nF hd) (A3.nG hd) (A3.newF hd) (rep_p r n)
end
end MW

set_option Elab.async false
set_option linter.all false
set_option maxRecDepth 100000
set_option maxHeartbeats 1000000
/-! Walk: the law. -/
namespace MW
open PySem PySem.Spec PyProof.Rows L2
/-- the last statement of a block -/
theorem n1 {t : TS} {D : Ends} {r : VK} {b c : L2.St → Hp → Prop} {σ : L2.St} {H : Hp} (h : t D σ H) : (Ends.mk (t D) r b c).nx σ H := h
theorem okT_big {d : WebD} {x : Option Int} (h : ∀ n, x = some n → n < 0 ∨ (d.many : Int) ≤ n) : okT d x = false := by
  have e : inR x 0 ((d.many : Int) - 1) = false := by
    cases x with
    | none => rfl
    | some n =>
      have := h n rfl
      simp [inR]
      omega
  unfold okT isEO isBO
  rw [e]
  rfl
def qLaw : Str := ("law" : Str) ++ ".<locals>."
def qLam : Str := qLaw ++ "<lambda>"
/-- _law_word(lambda: body), in the law -/
theorem lam_pe {X : Cx} {a : Adr} (T : Txt X.K X.mg a) {g c Pt : Addr} {od2 an2 : Option Addr} {sl2 : Array (Option Value)} {oc2 kV2 dc2 pm2 cd2 ct2 : Value} {params : Arguments} {body : Expr} {scope : Scope} {t : XK → TE} {p lpos pos : Pos}
    (lk2 : X.K.lookup g = some ⟨oc2, od2, .func (PySem.W.fnOf "_law_word" "_law_word" (defArgs sLWord) (defBody sLWord) (defScope sLWord) .none kV2 dc2 pm2 an2 cd2 ct2), sl2⟩) (hcd2 : PySem.W.codeIn X.K cd2 "_law_word" = true) (hm2 : X.mg "_law_word" = some (.ref g)) (hk2 : PySem.W.keepIn X.K (.ref g) = true)
    (hb2 : L2.Binds X.K (PySem.W.fnOf "_law_word" "_law_word" (defArgs sLWord) (defBody sLWord) (defScope sLWord) .none kV2 dc2 pm2 an2 cd2 ct2) ["_law_call"] [])
    (TB : LamX.TabB X.base X.mg c Pt) (hq : X.env.qual = qLaw) (hg : Gl X "_law_word") (hcode : X.env.code = .ref c) (hr : Room 11 X.A) (L : LamX.LamS X.env.scope scope) (hdef : defaultsOf params X.env = ([], []))
    (hbind : ∀ (q : Str) (cl : List (Str × Addr)) (pm cv ctv : Value), bindArgs (PySem.W.kla_fn "<lambda>" q params body scope cl pm cv ctv) ⟨[], []⟩ = pure [])
    (hbody : ∀ (A : Around) (outer : List Env) (s : Shared) (H : Hp) (E : XK) (f c' : Addr), Room 9 (A.deeper (LamX.lamEnv X scope s.heap.objs.size f c')) → PE (LamX.lamCx X A outer s H E scope f c') body (t E)) :
    PE X (.Call (.Name "_law_word" p) [.Lambda params body scope lpos] [] pos) (LamX.tLam [(Pt, qLam)] (TTw a) t) := by
  have hq2 : X.env.qual ++ "<lambda>" = qLam := by rw [hq]; rfl
  have h1 := LamX.pe_lamcall (p := p) (lpos := lpos) (pos := pos) (T := [(Pt, X.env.qual ++ "<lambda>")]) (TT := TTw a) (k := 9) (t := t) hg hm2 hk2 lk2 hcd2 hb2 scLWord rfl (Or.inl rfl) (word_gives T hr) TB hcode (List.mem_singleton.mpr rfl) (fun p hp _ => by rw [List.mem_singleton.mp hp]) hr L hdef hbind hbody
  rw [hq2] at h1
  exact h1
section
variable {P : Program} {w : World} {K : Fg} {mg : Str → Option Value} {base : Heap} {a : Adr}

/-! law -/
-- 0 _law_script 1 _law_purse_here 2 _law_turn_now 3 _law_many 4 _law_arrows 5 _law_places 6 _law_web 7 _law_prime 8 _law_picture_here 9 _law_some 10 _law_bad 11 _law_said 12 _law_place; cells _law_bad _law_picture_here _law_places _law_purse_here _law_web
abbrev sLaw : Stmt := top 71
abbrev nLaw : List Str := ["_law_script", "_law_purse_here", "_law_turn_now", "_law_many", "_law_arrows", "_law_places", "_law_web", "_law_prime", "_law_picture_here", "_law_some", "_law_bad", "_law_said", "_law_place"]
abbrev pLaw : List Str := ["_law_script"]
theorem scLaw : FnScope nLaw pLaw (defScope sLaw) := ⟨rfl, rfl, rfl, by decide +kernel, rfl, by decide +kernel, by decide +kernel⟩
def spLaw (K : Fg) (Pt : Addr) : Sp := fun vs H Q _ => ∃ (ns : List Int) (a0 : Addr), vs = [.ref a0] ∧ SqL K H a0 (ns.map V.int) ∧ ns.length ≤ 63 ∧ H Pt = some (.tbl #[]) ∧ ∀ H', Q (.bl true) H'
theorem ok_Law (T : Txt K mg a) {fa g c Pt : Addr} {od an od2 an2 : Option Addr} {sl sl2 : Array (Option Value)} {oc kV dc pm ct oc2 kV2 dc2 pm2 cd2 ct2 : Value}
    (lk : K.lookup fa = some ⟨oc, od, .func (PySem.W.fnOf "law" "law" (defArgs sLaw) (defBody sLaw) (defScope sLaw) .none kV dc pm an (.ref c) ct), sl⟩) (hcd : PySem.W.codeIn K (.ref c) "law" = true) (TB : LamX.TabB base mg c Pt)
    (lk2 : K.lookup g = some ⟨oc2, od2, .func (PySem.W.fnOf "_law_word" "_law_word" (defArgs sLWord) (defBody sLWord) (defScope sLWord) .none kV2 dc2 pm2 an2 cd2 ct2), sl2⟩) (hcd2 : PySem.W.codeIn K cd2 "_law_word" = true) (hm2 : mg "_law_word" = some (.ref g)) (hk2 : PySem.W.keepIn K (.ref g) = true)
    (hb2 : L2.Binds K (PySem.W.fnOf "_law_word" "_law_word" (defArgs sLWord) (defBody sLWord) (defScope sLWord) .none kV2 dc2 pm2 an2 cd2 ct2) ["_law_call"] [])
    (G__law_purse : Fd P w K mg base CX0 "_law_purse" pLPurse 1 (spLPurse K a)) (G__law_part : Fd P w K mg base CX0 "_law_part" pLPart 1 (spLPart K a)) (G__law_one : Fd P w K mg base CX0 "_law_one" pLOne 2 (spLOne K a)) (G__law_turning_web : Fd P w K mg base CX0 "_law_turning_web" pLTurningWeb 2 (spLTurningWeb K a))
    (G_Web : Md P w K mg base CX0 a.Wb "__init__" pWebInit 4 (SpI a.Wb (fun d G ws => preWeb K d G ws ∧ okWeb d) (fsWeb K))) (G__law_picture : Fd P w K mg base CX0 "_law_picture" pLPicture 7 (spLPicture K a)) (G__law_at_place_right : Fd P w K mg base CX0 "_law_at_place_right" pLAtPlaceRight 10 (spLAtPlaceRight K a))
    (G__law_odd : Fd P w K mg base CX0 "_law_odd" pLOdd 3 (spLOdd K a)) (G_turned_web : Fd P w K mg base (L2.CX P w) "turned_web" pTurnedWeb 6 (spTurnedWeb K a)) (G_turn : Fd P w K mg base (L2.CX P w) "turn" pTurn 9 (spTurn K a)) (G_lost : Fd P w K mg base (L2.CX P w) "lost" pLost 7 (spLost K a)) :
    FnOk P w K mg base CX0 12 fa (PySem.W.fnOf "law" "law" (defArgs sLaw) (defBody sLaw) (defScope sLaw) .none kV dc pm an (.ref c) ct) pLaw (spLaw K Pt) := by
  refine fn_of lk hcd scLaw (fun vs H Q E h => ?_) fun A outer s H vs Q E hr h => ?_
  · obtain ⟨ns, a0, rfl, _⟩ := h
    rfl
  · obtain ⟨ns, a0, rfl, hS, hns, hT, k⟩ := h
    have nd := scLaw.nd
    suffices z : ∃ t, PSs (cxOf CX0 P w K mg base nLaw "law" (defScope sLaw) fa (.ref c) A outer s H E).nox (defBody sLaw) t ∧ t { nx := fun _ H' => Q .non H', rt := Q } (start nLaw [.ref a0]) H from let ⟨t, ht, hq⟩ := z; ⟨t, ht.nox, hq⟩
    refine ⟨_, (pss_cons (ps_set (i := 1) nd rfl (Or.inr rfl) (pe_fd G__law_purse (hr.mono (by decide)) (by rfl) (pa_cons (pv 0) pa_nil)))
      (pss_cons (ps_for PassesOwn.never rfl (pi_range1 (by rfl) T.brange (pa_cons pe_int pa_nil)) (pg_name (i := 2) nd rfl (by first | exact Or.inl rfl | exact Or.inr rfl))
        (pss_cons (ps_asg (pe_fd G__law_turning_web (hr.mono (by decide)) (by rfl) (pa_cons (pv 1) pa_nil)) (k_tup (K := K) rfl rfl (pgs_cons (pg_name (i := 3) nd rfl (by first | exact Or.inl rfl | exact Or.inr rfl)) (pgs_cons (pg_name (i := 4) nd rfl (by first | exact Or.inl rfl | exact Or.inr rfl)) (pgs_cons (pg_name (i := 5) nd rfl (by first | exact Or.inl rfl | exact Or.inr rfl)) pgs_nil)))))
        (pss_cons (ps_asg (pe_tup (pa_cons (pe_mk T.cWb G_Web (hr.mono (by decide)) (by rfl) (pa_cons (pv 3) (pa_cons (pv 4) pa_nil))) (pa_cons (pe_fd G__law_one (hr.mono (by decide)) (by rfl) (pa_cons (pv 1) (pa_cons (pe_lst (pa_cons pe_int (pa_cons pe_int (pa_cons pe_int (pa_cons pe_int (pa_cons pe_int pa_nil)))))) pa_nil))) pa_nil))) (k_tup (K := K) rfl rfl (pgs_cons (pg_name (i := 6) nd rfl (by first | exact Or.inl rfl | exact Or.inr rfl)) (pgs_cons (pg_name (i := 7) nd rfl (by first | exact Or.inl rfl | exact Or.inr rfl)) pgs_nil))))
        (pss_cons (ps_set (i := 8) nd rfl (Or.inr rfl) (pe_fd G__law_picture (hr.mono (by decide)) (by rfl) (pa_cons (pv 1) (pa_cons (pv 6) (pa_cons (pv 7) (pa_cons (pe_callTy (k_tuple (K := K) rfl) (by rfl) T.btuple (by decide +kernel) (pa_cons (pe_lc (own := [("_law_place", 12)]) (g := (gName 12)) (tt := tYes) rfl nd (pi_range1 (by rfl) T.brange (pa_cons (pv 3) pa_nil)) (blkOk_by (N := nLaw) (sc := defScope sLaw) (by decide +kernel)) (fun _ _ _ _ _ => (pg_name (i := 12) nd rfl (by first | exact Or.inl rfl | exact Or.inr rfl))) (fun _ _ _ _ _ => pts_nil) (fun _ _ _ _ _ => (pe_fd G__law_part (hr.mono (by decide)) (by rfl) (pa_cons (pv 1) (pa_cons pe_int pa_nil))))) pa_nil)) pa_nil))))))
        (pss_cons (ps_if (pt_not (pt_val (pe_callB (k_all (K := K) rfl rfl) (by rfl) T.ball (by decide +kernel) (pa_cons (pe_lc (own := [("_law_place", 12)]) (g := (gName 12)) (tt := tYes) rfl nd (k_seq (K := K) rfl (pv 5)) (blkOk_by (N := nLaw) (sc := defScope sLaw) (by decide +kernel)) (fun _ _ _ _ _ => (pg_name (i := 12) nd rfl (by first | exact Or.inl rfl | exact Or.inr rfl))) (fun _ _ _ _ _ => pts_nil) (fun _ _ _ _ _ => (pe_fd G__law_at_place_right (hr.mono (by decide)) (by rfl) (pa_cons (pv 8) (pa_cons (pv 12) pa_nil))))) pa_nil))))
          (pss_one (ps_ret pe_bl))
          pss_nil)
        (pss_cons (ps_set (i := 9) nd rfl (Or.inl rfl) (pe_op op_cat (pe_lc (own := [("_law_place", 12)]) (g := (gName 12)) (tt := _) rfl nd (pi_range1 (by rfl) T.brange (pa_cons (pv 3) pa_nil)) (blkOk_by (N := nLaw) (sc := defScope sLaw) (by decide +kernel)) (fun _ _ _ _ _ => (pg_name (i := 12) nd rfl (by first | exact Or.inl rfl | exact Or.inr rfl))) (fun _ _ _ _ _ => (pts_one (pt_cmpR (k_notIn (K := K) rfl) (pv 12) (pv 5) rfl))) (fun _ _ _ _ _ => (pv 12))) (pe_lst (pa_cons (pv 3) (pa_cons (pe_un un_neg pe_int) (pa_cons (pe_op op_add (pv 3) pe_int) (pa_cons (pe_fd G__law_odd (hr.mono (by decide)) (by rfl) (pa_cons (pv 1) pa_nil)) pa_nil)))))))
        (pss_cons (ps_set (i := 10) nd rfl (Or.inr rfl) (pe_fd G__law_one (hr.mono (by decide)) (by rfl) (pa_cons (pv 1) (pa_cons (pv 9) pa_nil))))
        (pss_cons (ps_set (i := 11) nd rfl (Or.inl rfl) (pe_lst (pa_cons (lam_pe (t := fun E => tCall (spTurnedWeb K a) [] E (tCons (tVar 6) (tCons (tVar 10) tNil))) T lk2 hcd2 hm2 hk2 hb2 TB (by rfl) (by rfl) (by rfl) hr (LamX.lamS_by (by show LamX.lamSB (defScope sLaw) _ = true; decide +kernel)) (by rfl) (fun _ _ _ _ _ => rfl) (fun A outer s H E f c' hr2 => pe_fdX G_turned_web (hr2.mono (by decide)) (passes_call (takes_of rfl rfl rfl rfl) (fun _ _ _ _ h => h)) (by rfl) (pa_cons (pv 6) (pa_cons (pv 10) pa_nil)))) pa_nil)))
        (pss_cons (ps_expr (k_bm (K := K) rfl PySem.F.plainAttrs_list PySem.F.slot_list_append PySem.F.type_list_append mt_append (pv 11) (pa_cons (lam_pe (t := fun E => tCall (spTurn K a) [] E (tCons (tVar 8) (tCons (tVar 10) tNil))) T lk2 hcd2 hm2 hk2 hb2 TB (by rfl) (by rfl) (by rfl) hr (LamX.lamS_by (by show LamX.lamSB (defScope sLaw) _ = true; decide +kernel)) (by rfl) (fun _ _ _ _ _ => rfl) (fun A outer s H E f c' hr2 => pe_fdX G_turn (hr2.mono (by decide)) (passes_call (takes_of rfl rfl rfl rfl) (fun _ _ _ _ h => h)) (by rfl) (pa_cons (pv 8) (pa_cons (pv 10) pa_nil)))) pa_nil)))
        (pss_cons (ps_expr (k_bm (K := K) rfl PySem.F.plainAttrs_list PySem.F.slot_list_append PySem.F.type_list_append mt_append (pv 11) (pa_cons (lam_pe (t := fun E => tCall (spLost K a) [] E (tCons (tVar 8) (tCons (tVar 10) tNil))) T lk2 hcd2 hm2 hk2 hb2 TB (by rfl) (by rfl) (by rfl) hr (LamX.lamS_by (by show LamX.lamSB (defScope sLaw) _ = true; decide +kernel)) (by rfl) (fun _ _ _ _ _ => rfl) (fun A outer s H E f c' hr2 => pe_fdX G_lost (hr2.mono (by decide)) (passes_call (takes_of rfl rfl rfl rfl) (fun _ _ _ _ h => h)) (by rfl) (pa_cons (pv 8) (pa_cons (pv 10) pa_nil)))) pa_nil)))
        (pss_one (ps_if (pt_cmpR (k_neD (K := K) rfl hr.units) (pv 11) (pe_op op_rep (pe_lst (pa_cons pe_str pa_nil)) pe_int) (nomark _))
          (pss_one (ps_ret pe_bl))
          pss_nil))))))))))))
      (pss_one (ps_ret pe_bl)))), ?_⟩
    -- the script, the table
    have hA : At (rest H (upd no Pt (.tbl #[]))) (upd no Pt (.tbl #[])) H := rest_at fun x o e => by
      by_cases hx : x = Pt
      · subst hx
        rw [upd_same] at e
        cases e
        exact hT
      · rw [upd_ne hx] at e
        cases e
    have r0 : RL K RI (rest H (upd no Pt (.tbl #[]))) (.ref a0) ns := by
      refine ⟨a0, _, rfl, ?_, ints_p _⟩
      have na : ∀ o, H a0 = some o → (∀ ps, o ≠ .tbl ps) → rest H (upd no Pt (.tbl #[])) a0 = some o := fun o e ho => by
        refine rest_mk e ?_ ho
        by_cases hx : a0 = Pt
        · rw [hx, hT] at e
          cases e
          exact absurd rfl (ho #[])
        · rw [upd_ne hx]
          rfl
      rcases hS with (h | ⟨o, h⟩) | h
      · exact .inl (.inl (na _ h fun ps z => nomatch z))
      · exact .inl (.inr ⟨o, na _ h fun ps z => nomatch z⟩)
      · exact .inr h
    have tg0 : TabG qLam (rest H (upd no Pt (.tbl #[]))) #[] := ⟨True.intro, fun pos cv hc => by
      have z : codeAmong pos [] = some cv := hc
      simp [codeAmong] at z⟩
    generalize rest H (upd no Pt (.tbl #[])) = G at hA r0 tg0
    refine ⟨_, rfl, G, _, ns, _, hA, rfl, r0, by omega, fun b ps G1 H1 s1 nb pk A1 => ?_⟩
    have bP : b ≠ Pt := fun z => by rw [z, upd_same] at nb; cases nb
    have nbF : ∀ {pt : Array Value}, (upd no Pt (.tbl pt) : Hp) b = none := fun {pt} => by rw [upd_ne bP]; rfl
    refine nq ?_
    refine s_for (L := no) (n := 3) A1 no_sub (ei_rangeN (ev_i (n := 3)) (by decide)) (fun i σ G' F' => ∃ ps pt u2 u3 u4 u5 u6 u7 u8 u9 u10 u11, Same G1 G' ∧ PuOk K G' ps ∧ TabG qLam G' pt ∧ F' = pu (upd no Pt (.tbl pt)) b ps ∧ σ = [some (.ref a0), some (.ref b), u2, u3, u4, u5, u6, u7, u8, u9, u10, u11, none])
      (fun G' s => ⟨ps, #[], none, none, none, none, none, none, none, none, none, none, s, pk.mn s, tg0.mn (s1.trans s), rfl, rfl⟩) (fun _ _ _ _ _ => no_sub) ?_ ?_
    · rintro G0 s0 i v σ' G' F' H' hi ⟨ps, pt, u2, u3, u4, u5, u6, u7, u8, u9, u10, u11, s2, pk, tg, rfl, rfl⟩ G2 s3 s4 A2 rfl
      have pk2 := pk.mn s3
      -- a web
      refine (ep_callQ (k := 1) (P := fun _ vs => vs = []) (post := fun _ G v => ∃ d : WebD, okWeb d ∧ d.many ≤ 5 ∧ R3 K RN (RT K (RP K RN RN)) (RL K RN) G v (d.many, d.arrows, (List.range d.many).filter (isT d))) rfl () ea_nil (fun _ _ _ h => h)) G2 _ H' ps (Same.refl _) no_sub nbF pk2 A2 _ fun v3 G3 ps3 H3 s5 pk3 A3 ⟨d, okw, hm5, x3, y1, y2, y3, e1, e2, e3, e4, e5⟩ => ?_
      refine ⟨x3, [y1, y2, y3], e1, sqtS A3.g e2, rfl, y1, [y2, y3], rfl, y2, [y3], rfl, y3, [], rfl, rfl, ?_⟩
      dsimp only at e3 e4 e5
      cases e3
      have m1 := okw.m1
      -- Web(..), a prime
      refine nq ?_
      refine (ep_tup2 (P := fun G v => RWeb K a G v d) (P2 := fun G v => ∃ p : Nat, v = .int (p : Int) ∧ P4 (p : Int)) (fun _ _ _ s q => mn s q) (fun _ _ _ _ q => q) (Ev.ep (ev_web d okw (ev_var (R := RN) rfl rfl) (ev_var rfl e4))) (EvP.imp (ep_callQ (k := 1) (post := fun xs G v => ∃ x, x ∈ xs ∧ RO K G v x) rfl [some 2, some 2, some 3, some 5, some 13] (ea1 (EvF.ev (R := RO K) (ef_lst (ea_consR (Ev.ro (ev_i (n := 2))) (ea_consR (Ev.ro (ev_i (n := 2))) (ea_consR (Ev.ro (ev_i (n := 3))) (ea_consR (Ev.ro (ev_i (n := 5))) (ea_consR (Ev.ro (ev_i (n := 13))) ea_nilR))))) (by simp)))) fun G' vs s ⟨v, e, q⟩ => ⟨v, e, q, by simp, by simp⟩) fun G' v ⟨x, hx, r⟩ => ?_)) G3 _ H3 ps3 (Same.refl _) no_sub nbF pk3 A3 _ fun v4 G4 ps4 H4 s6 pk4 A4 ⟨x4, z1, z2, f1, f2, f3, p, f4, hp⟩ => ?_
      · simp at hx
        rcases hx with rfl | rfl | rfl | rfl
        · exact ⟨2, r, .inl rfl⟩
        · exact ⟨3, r, .inr (.inl rfl)⟩
        · exact ⟨5, r, .inr (.inr (.inl rfl))⟩
        · exact ⟨13, r, .inr (.inr (.inr rfl))⟩
      refine ⟨x4, [z1, z2], f1, sqtS A4.g f2, rfl, z1, [z2], rfl, z2, [], rfl, rfl, ?_⟩
      subst f4
      -- a picture
      refine nq ?_
      refine (ep_args (f := fun t => tCall (spLPicture K a) [] E0 t) (P' := fun G ws => ∃ v2 v4 ss, ws = [.ref b, v2, .int (p : Int), v4] ∧ RWeb K a G v2 d ∧ RT K RN G v4 ss ∧ ss.length = d.many ∧ ∀ s ∈ ss, s ≤ 6) (P := fun G v => ∃ pd, RPic K a G v pd ∧ okPic pd ∧ pd.web = d) (fun _ _ _ h => h) (EvAP.imp (eap_cons (P := fun _ v => v = .ref b) (fun _ _ _ _ q => q) (Ev.ep (R := RX) (x := .ref b) (ev_var rfl rfl)) (eap_cons (P := fun G v => RWeb K a G v d) (fun _ _ _ s q => mn s q) (Ev.ep (ev_var rfl f3)) (eap_cons (P := fun _ v => v = .int (p : Int)) (fun _ _ _ _ q => q) (Ev.ep (R := RI) (ev_var rfl rfl))
        (eap_cons (P := fun G v => ∃ ss, RT K RN G v ss ∧ ss.length = d.many ∧ ∀ i x, ss[i]? = some x → x < 4) (fun _ _ _ s ⟨ss, q, h⟩ => ⟨ss, mn s q, h⟩) (ep_tupL (EvFP.ep (ep_lcR (R := RN) (ev_var (R := RN) rfl rfl) (by omega) (fun _ x => x < 4) fun i v G' hi s q => (ep_part rfl ((ev_i (n := 4)).inn (n := 4) rfl) (by decide) (by decide))))) eap_nil)))) fun G' ws ⟨w1, t1, g1, h1, w2, t2, g2, h2, w3, t3, g3, h3, w4, t4, g4, ⟨ss, h4, h5, h6⟩, g5⟩ => ?_)
        fun ws G' s ⟨w2, w4, ss, g1, g2, g3, g4, g5⟩ => ?_) G4 _ H4 ps4 (Same.refl _) no_sub nbF pk4 A4 _ fun v8 G5 ps5 H5 s7 pk5 A5 ⟨pd, r8, okp, hwd⟩ => ?_
      · subst g1 g2 g3 g4 g5 h1 h3
        exact ⟨w2, w4, ss, rfl, h2, h4, h5, fun x hx => by obtain ⟨i, hi⟩ := List.getElem?_of_mem hx; have := h6 i x hi; omega⟩
      · subst g1
        exact EvP.imp (ep_callC (post := fun (i : WebD × Nat × List Nat) G v => ∃ pd, RPic K a G v pd ∧ okPic pd ∧ pd.web = i.1) (d, p, ss) fun G'' s' => ⟨w2, _, w4, rfl, mn s' g2, rfl, mn s' g3, okw, hp, g4, g5⟩) fun _ _ q => q
      -- all places
      have S5 := s6.trans s7
      have e5' := mn S5 e5
      refine nq ?_
      refine s_no (L := no) A5 no_sub (EvT.is (et_not (et_B (b := true) ((ev_all (EvF.ev (ef_lcX (R := RN) (S := RB) (ei_seqL (ev_var rfl e5')) (fun _ => true) (by have := List.length_filter_le (isT d) (List.range d.many); rw [List.length_range] at this; omega) fun x u G6 hx s8 q8 => ev_call (R := RB) (pd, x) (ea2 (R := RPic K a) (S := RN) (ev_var rfl (mn s8 r8)) (ev_var rfl q8)) (fun G' vs s ⟨v1, v2, e, q1, q2⟩ => ⟨v1, v2, e, q1, q2, okp, by rw [hwd]; exact List.mem_range.mp (List.mem_filter.mp hx).1, by rw [hwd]; exact (List.mem_filter.mp hx).2⟩) fun _ _ _ q => q))).is (by simp)))) rfl) fun G6 H6 s8 A6 => ?_
      have S6 := S5.trans s8
      have pk6 := pk5.mn s8
      have r8' := mn s8 r8
      -- a bad one
      refine nq ?_
      refine (ep_catL (R := RO K) (n := 4) (Py := fun ys => ys.length = 4 ∧ ∀ x ∈ ys, ∀ n, x = some n → n < 0 ∨ (d.many : Int) ≤ n) (xs := ((List.range d.many).filter fun i => !((List.range d.many).filter (isT d)).contains i).map fun (i : Nat) => some (i : Int)) (ef_lcRF (S := RO K) (n := d.many) (ev_var (R := RN) rfl rfl) (by omega) (fun i => !((List.range d.many).filter (isT d)).contains i) (fun (i : Nat) => some (i : Int)) (fun i v G7 hi s9 q9 => et_test ((ev_inL (neg := true) (n := (i : Int)) (ev_var (R := RN) rfl q9).ni (ev_var (R := RL K RN) rfl (mn (S6.trans s9) e5)).rln).is (by rw [contains_cast]; rfl))) fun i v G7 hi _ s9 q9 => Ev.ro (ev_var (R := RN) rfl q9).ni)
        (EvAP.imp (eap_cons (P := fun _ v => v = .int (d.many : Int)) (fun _ _ _ _ q => q) (Ev.ep (R := RN) (ev_var rfl rfl)) (eap_cons (P := fun _ v => v = .int (-1)) (fun _ _ _ _ q => q) (Ev.ep (ev_neg (ev_i (n := 1)))) (eap_cons (P := fun _ v => v = .int ((d.many : Int) + 7)) (fun _ _ _ _ q => q) (Ev.ep (ev_add (ev_var (R := RN) (x := d.many) rfl rfl).ni (ev_i (n := 7)))) (eap_cons (P := fun G v => ∃ x, RO K G v x ∧ (x = none ∨ x = some (10 ^ 11))) (fun _ _ _ s ⟨x, q, h⟩ => ⟨x, mn s q, h⟩) (ep_callQ (k := 1) (P := fun _ vs => vs = []) (post := fun _ G v => ∃ x, RO K G v x ∧ (x = none ∨ x = some (10 ^ 11))) rfl () ea_nil (fun _ _ _ h => h)) eap_nil)))) fun G' ws ⟨w1, t1, g1, h1, w2, t2, g2, h2, w3, t3, g3, h3, w4, t4, g4, ⟨x, h4, h5⟩, g5⟩ => ?_)
        (by have := List.length_filter_le (fun i => !((List.range d.many).filter (isT d)).contains i) (List.range d.many); rw [List.length_range] at this; rw [List.length_map]; omega) (by decide)) G6 _ H6 ps5 (Same.refl _) no_sub nbF pk6 A6 _ fun v9 G7 ps7 H7 s9 pk7 A7 ⟨ys, r9, hyl, hys⟩ => ?_
      · subst g1 g2 g3 g4 g5 h1 h2 h3
        refine ⟨[some (d.many : Int), some (-1), some ((d.many : Int) + 7), x], .cons rfl (.cons rfl (.cons rfl (.cons h4 .nil))), rfl, rfl, ?_⟩
        intro y hy n hn
        simp at hy
        rcases hy with rfl | rfl | rfl | rfl
        · cases hn; omega
        · cases hn; omega
        · cases hn; omega
        · rcases h5 with rfl | rfl
          · cases hn
          · cases hn
            omega
      have S7 := S6.trans s9
      have hlx : (((List.range d.many).filter fun i => !((List.range d.many).filter (isT d)).contains i).map fun (i : Nat) => some (i : Int)).length ≤ 5 := by
        have := List.length_filter_le (fun i => !((List.range d.many).filter (isT d)).contains i) (List.range d.many)
        rw [List.length_range] at this
        rw [List.length_map]
        omega
      refine nq ?_
      refine (ep_callQ (k := 1) (post := fun xs G v => ∃ x, x ∈ xs ∧ RO K G v x) rfl _ (ea1 (ev_var rfl r9)) fun G' vs s ⟨v, e, q⟩ => ⟨v, e, q, by rw [List.length_append]; omega, by rw [List.length_append]; omega⟩) G7 _ H7 ps7 (Same.refl _) no_sub nbF pk7 A7 _ fun v10 G8 ps8 H8 s10 pk8 A8 ⟨x, hx, r10⟩ => ?_
      have hbad : okT d x = false := by
        rcases List.mem_append.mp hx with h | h
        · obtain ⟨i, hi, e⟩ := List.mem_map.mp h
          obtain ⟨h1, h2⟩ := List.mem_filter.mp hi
          have h1 := List.mem_range.mp h1
          rw [← e, okT_nat h1]
          cases ht : isT d i with
          | false => rfl
          | true =>
            have : ((List.range d.many).filter (isT d)).contains i = true := by
              rw [List.contains_iff_mem]
              exact List.mem_filter.mpr ⟨List.mem_range.mpr h1, ht⟩
            rw [this] at h2
            cases h2
        · exact okT_big (hys x h)
      have S8 := (s7.trans s8).trans (s9.trans s10)
      have f3' := mn S8 f3
      have r8'' := mn (s9.trans s10) r8'
      -- three words
      have cm : ∀ {pt : Array Value} {F : Hp}, pu (upd F Pt (.tbl pt)) b ps8 = upd (pu F b ps8) Pt (.tbl pt) := fun {pt F} => upd_comm (Ne.symm bP)
      rw [cm] at A8
      have noP : pu no b ps8 Pt = none := by rw [pu_ne (Ne.symm bP)]; rfl
      have ncb : ∀ x o, pu no b ps8 x = some o → ∃ vs, o = .lst vs := fun x o e => by
        by_cases hx : x = b
        · subst hx
          rw [show pu no x ps8 x = some (.lst ps8) from upd_same] at e
          cases e
          exact ⟨_, rfl⟩
        · rw [pu_ne hx] at e
          cases e
      have tg8 := tg.mn (s3.trans (s5.trans (S5.trans (s8.trans (s9.trans s10)))))
      refine nq ?_
      refine lam_step A8 noP ncb tg8 (d, x) (ea2 (R := RWeb K a) (S := RO K) (ev_var rfl f3') (ev_var rfl r10)) (fun G' vs s ⟨w1, w2, e, q1, q2⟩ => ⟨w1, w2, e, q1, q2, okw⟩) hbad fun G9 pt9 H9 s11 tg9 A9 => ⟨by rw [sizeLine_eq]; decide, fun l hl => ?_⟩
      have A10 := A9.newF (o := .lst [.str "turn"]) hl
      have nl := A9.nF hl
      have lP : l ≠ Pt := fun z => by rw [z, upd_same] at nl; cases nl
      have nl0 : pu no b ps8 l = none := by rw [upd_ne lP] at nl; exact nl
      have cl : ∀ {pt : Array Value} {vs : List V}, upd (upd (pu no b ps8) Pt (.tbl pt)) l (.lst vs) = upd (upd (pu no b ps8) l (.lst vs)) Pt (.tbl pt) := fun {pt vs} => upd_comm (Ne.symm lP)
      rw [cl] at A10
      have noPl : ∀ {vs : List V}, upd (pu no b ps8) l (.lst vs) Pt = none := fun {vs} => by rw [upd_ne (Ne.symm lP)]; exact noP
      have ncl : ∀ {ws : List V}, ∀ x o, upd (pu no b ps8) l (.lst ws) x = some o → ∃ vs, o = .lst vs := fun {ws} x o e => by
        by_cases hx : x = l
        · subst hx
          rw [upd_same] at e
          cases e
          exact ⟨_, rfl⟩
        · rw [upd_ne hx] at e
          exact ncb x o e
      have atl : ∀ {pt : Array Value} {vs : List V}, upd (upd (pu no b ps8) l (.lst vs)) Pt (.tbl pt) l = some (.lst vs) := fun {pt vs} => by rw [upd_ne lP, upd_same]
      have setl : ∀ {pt : Array Value} {vs ws : List V}, upd (upd (upd (pu no b ps8) l (.lst vs)) Pt (.tbl pt)) l (.lst ws) = upd (upd (pu no b ps8) l (.lst ws)) Pt (.tbl pt) := fun {pt vs ws} => by rw [upd_comm (Ne.symm lP), upd_upd]
      have hbad2 : okT pd.web x = false := by rw [hwd]; exact hbad
      refine nq ?_
      refine ⟨_, rfl, .inl ⟨rfl, _, .inl (.inl (A10.f _ _ atl))⟩, ?_⟩
      refine lam_step A10 noPl ncl tg9 (pd, x) (ea2 (R := RPic K a) (S := RO K) (ev_var rfl (mn s11 r8'')) (ev_var rfl (mn s11 r10))) (fun G' vs s ⟨w1, w2, e, q1, q2⟩ => ⟨w1, w2, e, q1, q2, okp⟩) hbad2 fun G11 pt11 H11 s12 tg11 A11 => ⟨l, _, _, rfl, rfl, A11.f _ _ atl, small1000 (by simp), ?_⟩
      have A12 := A11.set (o := .lst ([.str "turn"] ++ [.str "turn"])) atl
      rw [setl] at A12
      refine nq ?_
      refine ⟨_, rfl, .inl ⟨rfl, _, .inl (.inl (A12.f _ _ atl))⟩, ?_⟩
      refine lam_step A12 noPl ncl tg11 (pd, x) (ea2 (R := RPic K a) (S := RO K) (ev_var rfl (mn (s11.trans s12) r8'')) (ev_var rfl (mn (s11.trans s12) r10))) (fun G' vs s ⟨w1, w2, e, q1, q2⟩ => ⟨w1, w2, e, q1, q2, okp⟩) hbad2 fun G13 pt13 H13 s13 tg13 A13 => ⟨l, _, _, rfl, rfl, A13.f _ _ atl, small1000 (by simp), ?_⟩
      have A14 := A13.set (o := .lst ([.str "turn"] ++ [.str "turn"] ++ [.str "turn"])) atl
      rw [setl, ← cl] at A14
      have nlT : upd (pu no b ps8) Pt (.tbl pt13) l = none := by rw [upd_ne lP]; exact nl0
      have A15 := A14.freezeN nlT
      have s14 : Same G13 (upd G13 l (.lst ([.str "turn"] ++ [.str "turn"] ++ [.str "turn"]))) := same_new (A14.d l _ upd_same)
      have rl : RL K (RW1 "turn") (upd G13 l (.lst ([.str "turn"] ++ [.str "turn"] ++ [.str "turn"]))) (.ref l) [(), (), ()] := ⟨l, _, rfl, .inl (.inl upd_same), .cons rfl (.cons rfl (.cons rfl .nil))⟩
      generalize upd G13 l (.lst ([.str "turn"] ++ [.str "turn"] ++ [.str "turn"])) = G14 at A15 s14 rl
      refine n1 ?_
      refine s_no (L := no) A15 no_sub (et_test ((ev_neD (R := RL K (RW1 "turn")) (x := [(), (), ()]) (y := List.replicate 3 ()) (ev_var rfl rl) (EvF.ev (ef_rep1 (n := 3) (ev_c fun _ => rfl) (by decide))) (Nat.le_of_ble_eq_true rfl)).is (by decide))) fun G15 H15 s15 A16 => ?_
      have SE : Same G8 G15 := s11.trans (s12.trans (s13.trans (s14.trans s15)))
      rw [← cm] at A16
      exact ⟨G15, _, s4.trans (s5.trans (S5.trans (s8.trans (s9.trans (s10.trans SE))))), A16, ps8, pt13, _, _, _, _, _, _, _, _, _, _, s2.trans (s3.trans (s5.trans (S5.trans (s8.trans (s9.trans (s10.trans SE)))))), pk8.mn SE, tg13.mn (s14.trans s15), rfl, rfl⟩
    · rintro σ' G' F' H' s2 A2 ⟨ps, pt, u2, u3, u4, u5, u6, u7, u8, u9, u10, u11, s3, pk, tg, rfl, rfl⟩
      refine n1 ?_
      refine s_ret (L := no) A2 no_sub (R := RB) (x := true) ev_bl fun v G3 H3 s4 A3 q => ?_
      cases q
      exact k H3
end
end MW

set_option Elab.async false
set_option linter.all false
set_option maxRecDepth 100000
set_option maxHeartbeats 4000000
/-! What the top has left, fact by fact. -/
namespace MW
open PySem PySem.Spec PyProof.Rows L2
section
variable {K : Fg} {h : Heap} {mg : Str → Option Value}
theorem has_mk (X : K.In h) (G : h.Ns mainGlobals mg) {x : Str} {st : Stmt} {ps : List Str} {f : Addr} {od an : Option Addr} {sl : Array (Option Value)} {oc kV dc pm cd ct : Value}
    (hb : ∀ (kV doc pm : Value) (an : Option Addr) (cdv ct : Value) (us : List Value), us.length = ps.length → bindArgs (PySem.W.fnOf x x (defArgs st) (defBody st) (defScope st) .none kV doc pm an cdv ct) ⟨us, []⟩ = pure (ps.zip us))
    (a1 : PySem.W.nsIn K mainGlobals x = some (some (.ref f))) (l1 : K.lookup f = some ⟨oc, od, .func (PySem.W.fnOf x x (defArgs st) (defBody st) (defScope st) .none kV dc pm an cd ct), sl⟩) (c1 : PySem.W.codeIn K cd x = true) (k1 : PySem.W.keepIn K (.ref f) = true) : Has K mg x st ps :=
  let F := fun_mk (st := st) l1 c1 k1
  ⟨f, _, F, PySem.W.mg_of X G a1, F.binds hb⟩
theorem hasM_mk {C : Addr} {m qual : Str} {st : Stmt} {ps : List Str} {f : Addr} {od an : Option Addr} {sl : Array (Option Value)} {oc kV dc pm cd ct : Value}
    (hb : ∀ (kV doc pm : Value) (an : Option Addr) (cdv ct : Value) (us : List Value), us.length = ps.length → bindArgs (PySem.W.fnOf m qual (defArgs st) (defBody st) (defScope st) .none kV doc pm an cdv ct) ⟨us, []⟩ = pure (ps.zip us))
    (a1 : PySem.W.findIn K (.ref C) m = some (some (.ref f))) (i1 : PySem.W.isFn K (.ref f) = true) (l1 : K.lookup f = some ⟨oc, od, .func (PySem.W.fnOf m qual (defArgs st) (defBody st) (defScope st) .none kV dc pm an cd ct), sl⟩) (c1 : PySem.W.codeIn K cd qual = true) (k1 : PySem.W.keepIn K (.ref f) = true) : HasM K C m qual st ps :=
  let F := fun_mk (st := st) l1 c1 k1
  ⟨f, _, F, a1, i1, F.binds hb⟩
theorem cl_mk (X : K.In h) (G : h.Ns mainGlobals mg) {x : Str} {C : Addr} (a1 : PySem.W.nsIn K mainGlobals x = some (some (.ref C))) (mk : PySem.W.makesIn K C = true) (kc : PySem.W.keepIn K (.ref C) = true)
    (pg : PySem.W.plainGet K C Str.empty = true) (hd : PySem.W.hasDictIn K C = true) (po : PySem.W.plainOver K C = true) (sa : PySem.W.findIn K (.ref C) "__setattr__" = some (some (.builtin "object.__setattr__")))
    (cc : PySem.W.findIn K (.ref C) "__class__" = some (some (.builtin "object.__class__"))) (mr : PySem.W.mroIn K C (.type "object") = some true) : Cl K mg x C := ⟨PySem.W.mg_of X G a1, mk, kc, ⟨pg, hd, po, sa⟩, cc, mr⟩
theorem int_mk (X : K.In h) (G : h.Ns mainGlobals mg) {x : Str} {n : Int} {t : Tok} (a1 : PySem.W.nsIn K mainGlobals x = some (some (.int n t))) : ∃ t, mg x = some (.int n t) := ⟨t, PySem.W.mg_of X G a1⟩
end
end MW

set_option Elab.async false
set_option linter.all false
set_option maxRecDepth 100000
set_option maxHeartbeats 4000000
/-! All defs put together. -/
namespace MW
open PySem PySem.Spec PyProof.Rows L2
theorem law_all {P : Program} {w : World} {K : Fg} {mg : Str → Option Value} {base : Heap} {a : Adr} (T : Txt K mg a)
    (H_is_integer : Has K mg "is_integer" sIsInteger pIsInteger)
    (H_is_within : Has K mg "is_within" sIsWithin pIsWithin)
    (H_is_number : Has K mg "is_number" sIsNumber pIsNumber)
    (H_is_prime : Has K mg "is_prime" sIsPrime pIsPrime)
    (H_inverse_of : Has K mg "inverse_of" sInverseOf pInverseOf)
    (H_is_column : Has K mg "is_column" sIsColumn pIsColumn)
    (H_columns_of : Has K mg "columns_of" sColumnsOf pColumnsOf)
    (H_columns_table : Has K mg "columns_table" sColumnsTable pColumnsTable)
    (H_turned_about : Has K mg "turned_about" sTurnedAbout pTurnedAbout)
    (H_beside_rows : Has K mg "beside_rows" sBesideRows pBesideRows)
    (H_beneath_rows : Has K mg "beneath_rows" sBeneathRows pBeneathRows)
    (H_less : Has K mg "less" sLess pLess)
    (H_cleared : Has K mg "cleared" sCleared pCleared)
    (H_reduced_rows : Has K mg "reduced_rows" sReducedRows pReducedRows)
    (H_rank : Has K mg "rank" sRank pRank)
    (H_kernel : Has K mg "kernel" sKernel pKernel)
    (H_begins_at : Has K mg "begins_at" sBeginsAt pBeginsAt)
    (H_ends_at : Has K mg "ends_at" sEndsAt pEndsAt)
    (H_is_end : Has K mg "is_end" sIsEnd pIsEnd)
    (H_is_begin : Has K mg "is_begin" sIsBegin pIsBegin)
    (H_raw_turned_web : Has K mg "raw_turned_web" sRawTurnedWeb pRawTurnedWeb)
    (H_turned_web : Has K mg "turned_web" sTurnedWeb pTurnedWeb)
    (H_are_sizes : Has K mg "are_sizes" sAreSizes pAreSizes)
    (H_is_fit_table : Has K mg "is_fit_table" sIsFitTable pIsFitTable)
    (H_check_turn : Has K mg "check_turn" sCheckTurn pCheckTurn)
    (H_near_places : Has K mg "near_places" sNearPlaces pNearPlaces)
    (H_joined_table : Has K mg "joined_table" sJoinedTable pJoinedTable)
    (H_kept_rows : Has K mg "kept_rows" sKeptRows pKeptRows)
    (H_raw_turn : Has K mg "raw_turn" sRawTurn pRawTurn)
    (H_turn : Has K mg "turn" sTurn pTurn)
    (H_lost : Has K mg "lost" sLost pLost)
    (H__law_purse : Has K mg "_law_purse" sLPurse pLPurse)
    (H__law_part : Has K mg "_law_part" sLPart pLPart)
    (H__law_one : Has K mg "_law_one" sLOne pLOne)
    (H__law_spanned : Has K mg "_law_spanned" sLSpanned pLSpanned)
    (H__law_less : Has K mg "_law_less" sLLess pLLess)
    (H__law_lost_columns : Has K mg "_law_lost_columns" sLLostColumns pLLostColumns)
    (H__law_rows : Has K mg "_law_rows" sLRows pLRows)
    (H__law_picture : Has K mg "_law_picture" sLPicture pLPicture)
    (H__law_sides : Has K mg "_law_sides" sLSides pLSides)
    (H__law_glued : Has K mg "_law_glued" sLGlued pLGlued)
    (H__law_turned : Has K mg "_law_turned" sLTurned pLTurned)
    (H__law_is_turned : Has K mg "_law_is_turned" sLIsTurned pLIsTurned)
    (H__law_turning_web : Has K mg "_law_turning_web" sLTurningWeb pLTurningWeb)
    (H__law_deep : Has K mg "_law_deep" sLDeep pLDeep)
    (H__law_odd : Has K mg "_law_odd" sLOdd pLOdd)
    (H__law_at_place_right : Has K mg "_law_at_place_right" sLAtPlaceRight pLAtPlaceRight)
    (M_keepTb : HasM K a.Tb "keep" "Table.keep" sTableKeep pTableKeep)
    (M_keepRTb : HasM K a.RTb "keep" "Table.keep" sTableKeep pTableKeep)
    (M_Table : HasM K a.Tb "__init__" "Table.__init__" sTableInit pTableInit)
    (M_RawTable : HasM K a.RTb "__init__" "RawTable.__init__" sRawTableInit pRawTableInit)
    (M_Web : HasM K a.Wb "__init__" "Web.__init__" sWebInit pWebInit)
    (M_RawWeb : HasM K a.RWb "__init__" "RawWeb.__init__" sRawWebInit pRawWebInit)
    (M_eq : HasM K a.RWb "__eq__" "Web.__eq__" sWebEq pWebEq)
    (M_keepPc : HasM K a.Pc "keep" "Picture.keep" sPictureKeep pPictureKeep)
    (M_keepRPc : HasM K a.RPc "keep" "Picture.keep" sPictureKeep pPictureKeep)
    (M_Picture : HasM K a.Pc "__init__" "Picture.__init__" sPictureInit pPictureInit)
    (M_RawPicture : HasM K a.RPc "__init__" "RawPicture.__init__" sRawPictureInit pRawPictureInit)
    (H_word : Has K mg "_law_word" sLWord pLWord)
    {fa c Pt : Addr} {od an : Option Addr} {sl : Array (Option Value)} {oc kV dc pm ct : Value}
    (lk : K.lookup fa = some ⟨oc, od, .func (PySem.W.fnOf "law" "law" (defArgs sLaw) (defBody sLaw) (defScope sLaw) .none kV dc pm an (.ref c) ct), sl⟩) (hcd : PySem.W.codeIn K (.ref c) "law" = true) (TB : LamX.TabB base mg c Pt) :
    FnOk P w K mg base CX0 12 fa (PySem.W.fnOf "law" "law" (defArgs sLaw) (defBody sLaw) (defScope sLaw) .none kV dc pm an (.ref c) ct) pLaw (spLaw K Pt) := by
  have G__law_purse := ok_LPurse (P := P) (w := w) (base := base) T H__law_purse 
  have G__law_part := ok_LPart (P := P) (w := w) (base := base) T H__law_part 
  have G__law_one := ok_LOne (P := P) (w := w) (base := base) T H__law_one (G__law_part := G__law_part)
  have G__law_turning_web := ok_LTurningWeb (P := P) (w := w) (base := base) T H__law_turning_web (G__law_part := G__law_part)
  have G_is_integer := ok_IsInteger (P := P) (w := w) (base := base) T H_is_integer 
  have G_is_within := ok_IsWithin (P := P) (w := w) (base := base) T H_is_within (G_is_integer := G_is_integer)
  have G_is_number := ok_IsNumber (P := P) (w := w) (base := base) T H_is_number (G_is_within := G_is_within)
  have G_Web := ok_WebInit (P := P) (w := w) (base := base) T M_Web (G_is_within := G_is_within) (G_is_number := G_is_number)
  have G__law_rows := ok_LRows (P := P) (w := w) (base := base) T H__law_rows (G__law_part := G__law_part)
  have G_keepTb := ok_TableKeep (P := P) (w := w) (base := base) T (.inl rfl) M_keepTb
  have G_is_prime := ok_IsPrime (P := P) (w := w) (base := base) T H_is_prime (G_is_integer := G_is_integer)
  have G_is_column := ok_IsColumn (P := P) (w := w) (base := base) T H_is_column (G_is_number := G_is_number)
  have G_Table := ok_TableInit (P := P) (w := w) (base := base) T M_Table (G_keep := G_keepTb) (G_is_prime := G_is_prime) (G_is_number := G_is_number) (G_is_column := G_is_column)
  have G_keepPc := ok_PictureKeep (P := P) (w := w) (base := base) T M_keepPc
  have G_are_sizes := ok_AreSizes (P := P) (w := w) (base := base) T H_are_sizes (G_is_number := G_is_number)
  have G_is_fit_table := ok_IsFitTable (P := P) (w := w) (base := base) T H_is_fit_table 
  have G_Picture := ok_PictureInit (P := P) (w := w) (base := base) T M_Picture (G_keep := G_keepPc) (G_is_prime := G_is_prime) (G_are_sizes := G_are_sizes) (G_is_fit_table := G_is_fit_table)
  have G__law_picture := ok_LPicture (P := P) (w := w) (base := base) T H__law_picture (G__law_rows := G__law_rows) (G_Table := G_Table) (G_Picture := G_Picture)
  have G_begins_at := ok_BeginsAt (P := P) (w := w) (base := base) T H_begins_at 
  have G_is_end := ok_IsEnd (P := P) (w := w) (base := base) T H_is_end (G_is_number := G_is_number) (G_begins_at := G_begins_at)
  have G_ends_at := ok_EndsAt (P := P) (w := w) (base := base) T H_ends_at 
  have G_is_begin := ok_IsBegin (P := P) (w := w) (base := base) T H_is_begin (G_is_number := G_is_number) (G_is_end := G_is_end) (G_ends_at := G_ends_at)
  have G_check_turn := ok_CheckTurn (P := P) (w := w) (base := base) T H_check_turn (G_is_end := G_is_end) (G_is_begin := G_is_begin)
  have G_near_places := ok_NearPlaces (P := P) (w := w) (base := base) T H_near_places (G_is_end := G_is_end) (G_begins_at := G_begins_at) (G_ends_at := G_ends_at)
  have G_keepRTb := ok_TableKeep (P := P) (w := w) (base := base) T (.inr rfl) M_keepRTb
  have G_RawTable := ok_RawTableInit (P := P) (w := w) (base := base) T M_RawTable (G_keep := G_keepRTb)
  have G_beside_rows := ok_BesideRows (P := P) (w := w) (base := base) T H_beside_rows (G_RawTable := G_RawTable)
  have G_beneath_rows := ok_BeneathRows (P := P) (w := w) (base := base) T H_beneath_rows (G_RawTable := G_RawTable)
  have G_joined_table := ok_JoinedTable (P := P) (w := w) (base := base) T H_joined_table (G_is_end := G_is_end) (G_near_places := G_near_places) (G_beside_rows := G_beside_rows) (G_beneath_rows := G_beneath_rows)
  have G_inverse_of := ok_InverseOf (P := P) (w := w) (base := base) T H_inverse_of 
  have G_less := ok_Less (P := P) (w := w) (base := base) T H_less 
  have G_cleared := ok_Cleared (P := P) (w := w) (base := base) T H_cleared (G_less := G_less)
  have G_reduced_rows := ok_ReducedRows (P := P) (w := w) (base := base) T H_reduced_rows (G_inverse_of := G_inverse_of) (G_cleared := G_cleared)
  have G_kernel := ok_Kernel (P := P) (w := w) (base := base) T H_kernel (G_reduced_rows := G_reduced_rows)
  have G_columns_of := ok_ColumnsOf (P := P) (w := w) (base := base) T H_columns_of 
  have G_turned_about := ok_TurnedAbout (P := P) (w := w) (base := base) T H_turned_about (G_RawTable := G_RawTable) (G_columns_of := G_columns_of)
  have G_kept_rows := ok_KeptRows (P := P) (w := w) (base := base) T H_kept_rows (G_joined_table := G_joined_table) (G_is_end := G_is_end) (G_kernel := G_kernel) (G_turned_about := G_turned_about)
  have G_columns_table := ok_ColumnsTable (P := P) (w := w) (base := base) T H_columns_table (G_RawTable := G_RawTable)
  have G_keepRPc := ok_PictureKeepR (P := P) (w := w) (base := base) T M_keepRPc
  have G_RawPicture := ok_RawPictureInit (P := P) (w := w) (base := base) T M_RawPicture (G_keep := G_keepRPc)
  have G_RawWeb := ok_RawWebInit (P := P) (w := w) (base := base) T M_RawWeb
  have G_raw_turned_web := ok_RawTurnedWeb (P := P) (w := w) (base := base) T H_raw_turned_web (G_RawWeb := G_RawWeb)
  have G_raw_turn := ok_RawTurn (P := P) (w := w) (base := base) T H_raw_turn (G_kept_rows := G_kept_rows) (G_is_end := G_is_end) (G_near_places := G_near_places) (G_columns_table := G_columns_table) (G_RawTable := G_RawTable) (G_RawPicture := G_RawPicture) (G_raw_turned_web := G_raw_turned_web)
  have G_turn := ok_Turn (P := P) (w := w) (base := base) T H_turn (G_check_turn := G_check_turn) (G_raw_turn := G_raw_turn)
  have G__law_sides := ok_LSides (P := P) (w := w) (base := base) T H__law_sides 
  have G__law_glued := ok_LGlued (P := P) (w := w) (base := base) T H__law_glued (G__law_sides := G__law_sides)
  have G__law_less := ok_LLess (P := P) (w := w) (base := base) T H__law_less 
  have G__law_spanned := ok_LSpanned (P := P) (w := w) (base := base) T H__law_spanned (G__law_less := G__law_less)
  have G__law_lost_columns := ok_LLostColumns (P := P) (w := w) (base := base) T H__law_lost_columns (G__law_spanned := G__law_spanned)
  have G__law_turned := ok_LTurned (P := P) (w := w) (base := base) T H__law_turned (G__law_sides := G__law_sides) (G__law_glued := G__law_glued) (G__law_lost_columns := G__law_lost_columns) (G__law_spanned := G__law_spanned)
  have G_eq := ok_WebEq (P := P) (w := w) (base := base) T M_eq
  have G__law_is_turned := ok_LIsTurned (P := P) (w := w) (base := base) T H__law_is_turned (G__law_turned := G__law_turned) (G_Web := G_Web) (G_eq := G_eq)
  have G_turned_web := ok_TurnedWeb (P := P) (w := w) (base := base) T H_turned_web (G_is_end := G_is_end) (G_is_begin := G_is_begin) (G_raw_turned_web := G_raw_turned_web)
  have G_rank := ok_Rank (P := P) (w := w) (base := base) T H_rank (G_reduced_rows := G_reduced_rows)
  have G_lost := ok_Lost (P := P) (w := w) (base := base) T H_lost (G_check_turn := G_check_turn) (G_rank := G_rank) (G_joined_table := G_joined_table)
  have G__law_at_place_right := ok_LAtPlaceRight (P := P) (w := w) (base := base) T H__law_at_place_right (G_turn := G_turn) (G__law_is_turned := G__law_is_turned) (G_turned_web := G_turned_web) (G__law_sides := G__law_sides) (G_lost := G_lost) (G__law_turned := G__law_turned) (G_eq := G_eq)
  have G__law_deep := ok_LDeep (P := P) (w := w) (base := base) T H__law_deep 
  have G__law_odd := ok_LOdd (P := P) (w := w) (base := base) T H__law_odd (G__law_one := G__law_one) (G__law_deep := G__law_deep)
  obtain ⟨g, fd, F, hm2, hb2⟩ := H_word.ex
  obtain ⟨oc2, od2, kV2, dc2, pm2, an2, cd2, ct2, sl2, rfl, lk2, hcd2⟩ := F.ex
  exact ok_Law T lk hcd TB lk2 hcd2 hm2 F.kp hb2 (G__law_purse := G__law_purse) (G__law_part := G__law_part) (G__law_one := G__law_one) (G__law_turning_web := G__law_turning_web) (G_Web := G_Web) (G__law_picture := G__law_picture) (G__law_at_place_right := G__law_at_place_right) (G__law_odd := G__law_odd) (G_turned_web := G_turned_web) (G_turn := G_turn) (G_lost := G_lost)
theorem exm_mk {K : Fg} {C D : Addr} (h1 : PySem.W.subIn K (.ref D) (.type "BaseException") = some true) (h2 : PySem.W.isClsIn K D = true) (h3 : PySem.W.typeIn K (.ref D) = some (.type "type")) (h4 : PySem.W.subIn K (.ref C) (.ref D) = some true) :
    PySem.W.exmOne K (.ref C) (.ref D) = some true := by
  have e1 : (PySem.W.subIn K (.ref D) (.type "BaseException") == some true) = true := by rw [h1] <;> rfl
  have e2 : ((PySem.W.clsIn K D).isSome && PySem.W.typeIn K (.ref D) == some (.type "type")) = true := by
    have h2' : (PySem.W.clsIn K D).isSome = true := h2
    rw [h2', h3] <;> rfl
  show (if (PySem.W.subIn K (.ref D) (.type "BaseException") == some true) = true then (if ((PySem.W.clsIn K D).isSome && PySem.W.typeIn K (.ref D) == some (.type "type")) = true then PySem.W.subIn K (.ref C) (.ref D) else none) else none) = some true
  rw [if_pos e1, if_pos e2]
  exact h4
theorem primes_mk {K : Fg} {p n : Nat} {dd : Option Addr} {t1 t2 t3 t4 t5 t6 : Tok} {sl : Array (Option Value)} (h : K.lookup p = some ⟨.type "tuple", dd, .seq #[.int 2 t1, .int 3 t2, .int 5 t3, .int 7 t4, .int 11 t5, .int 13 t6] n, sl⟩) : ∀ H, SqT K H p (([2, 3, 5, 7, 11, 13] : List Int).map V.int) := fun H =>
  .inr ⟨_, _, _, h, rfl, rfl, by show 6 ≤ sizeLine; decide, .cons ⟨_, rfl⟩ (.cons ⟨_, rfl⟩ (.cons ⟨_, rfl⟩ (.cons ⟨_, rfl⟩ (.cons ⟨_, rfl⟩ (.cons ⟨_, rfl⟩ .nil)))))⟩
theorem law_end {l : PySem.W.OpenLaw} {w : World} {K : Fg} {h : Heap} {mg : Str → Option Value} {a : Adr} {fa Pt : Addr} (X : K.In h) (G : h.Ns mainGlobals mg) (hmg : mg "law" = some (.ref fa)) (tb : ∀ P ∈ [Pt], h.get? P = some (PySem.W.tabObj #[])) (T : Txt K mg a)
    (H_is_integer : Has K mg "is_integer" sIsInteger pIsInteger)
    (H_is_within : Has K mg "is_within" sIsWithin pIsWithin)
    (H_is_number : Has K mg "is_number" sIsNumber pIsNumber)
    (H_is_prime : Has K mg "is_prime" sIsPrime pIsPrime)
    (H_inverse_of : Has K mg "inverse_of" sInverseOf pInverseOf)
    (H_is_column : Has K mg "is_column" sIsColumn pIsColumn)
    (H_columns_of : Has K mg "columns_of" sColumnsOf pColumnsOf)
    (H_columns_table : Has K mg "columns_table" sColumnsTable pColumnsTable)
    (H_turned_about : Has K mg "turned_about" sTurnedAbout pTurnedAbout)
    (H_beside_rows : Has K mg "beside_rows" sBesideRows pBesideRows)
    (H_beneath_rows : Has K mg "beneath_rows" sBeneathRows pBeneathRows)
    (H_less : Has K mg "less" sLess pLess)
    (H_cleared : Has K mg "cleared" sCleared pCleared)
    (H_reduced_rows : Has K mg "reduced_rows" sReducedRows pReducedRows)
    (H_rank : Has K mg "rank" sRank pRank)
    (H_kernel : Has K mg "kernel" sKernel pKernel)
    (H_begins_at : Has K mg "begins_at" sBeginsAt pBeginsAt)
    (H_ends_at : Has K mg "ends_at" sEndsAt pEndsAt)
    (H_is_end : Has K mg "is_end" sIsEnd pIsEnd)
    (H_is_begin : Has K mg "is_begin" sIsBegin pIsBegin)
    (H_raw_turned_web : Has K mg "raw_turned_web" sRawTurnedWeb pRawTurnedWeb)
    (H_turned_web : Has K mg "turned_web" sTurnedWeb pTurnedWeb)
    (H_are_sizes : Has K mg "are_sizes" sAreSizes pAreSizes)
    (H_is_fit_table : Has K mg "is_fit_table" sIsFitTable pIsFitTable)
    (H_check_turn : Has K mg "check_turn" sCheckTurn pCheckTurn)
    (H_near_places : Has K mg "near_places" sNearPlaces pNearPlaces)
    (H_joined_table : Has K mg "joined_table" sJoinedTable pJoinedTable)
    (H_kept_rows : Has K mg "kept_rows" sKeptRows pKeptRows)
    (H_raw_turn : Has K mg "raw_turn" sRawTurn pRawTurn)
    (H_turn : Has K mg "turn" sTurn pTurn)
    (H_lost : Has K mg "lost" sLost pLost)
    (H__law_purse : Has K mg "_law_purse" sLPurse pLPurse)
    (H__law_part : Has K mg "_law_part" sLPart pLPart)
    (H__law_one : Has K mg "_law_one" sLOne pLOne)
    (H__law_spanned : Has K mg "_law_spanned" sLSpanned pLSpanned)
    (H__law_less : Has K mg "_law_less" sLLess pLLess)
    (H__law_lost_columns : Has K mg "_law_lost_columns" sLLostColumns pLLostColumns)
    (H__law_rows : Has K mg "_law_rows" sLRows pLRows)
    (H__law_picture : Has K mg "_law_picture" sLPicture pLPicture)
    (H__law_sides : Has K mg "_law_sides" sLSides pLSides)
    (H__law_glued : Has K mg "_law_glued" sLGlued pLGlued)
    (H__law_turned : Has K mg "_law_turned" sLTurned pLTurned)
    (H__law_is_turned : Has K mg "_law_is_turned" sLIsTurned pLIsTurned)
    (H__law_turning_web : Has K mg "_law_turning_web" sLTurningWeb pLTurningWeb)
    (H__law_deep : Has K mg "_law_deep" sLDeep pLDeep)
    (H__law_odd : Has K mg "_law_odd" sLOdd pLOdd)
    (H__law_at_place_right : Has K mg "_law_at_place_right" sLAtPlaceRight pLAtPlaceRight)
    (M_keepTb : HasM K a.Tb "keep" "Table.keep" sTableKeep pTableKeep)
    (M_keepRTb : HasM K a.RTb "keep" "Table.keep" sTableKeep pTableKeep)
    (M_Table : HasM K a.Tb "__init__" "Table.__init__" sTableInit pTableInit)
    (M_RawTable : HasM K a.RTb "__init__" "RawTable.__init__" sRawTableInit pRawTableInit)
    (M_Web : HasM K a.Wb "__init__" "Web.__init__" sWebInit pWebInit)
    (M_RawWeb : HasM K a.RWb "__init__" "RawWeb.__init__" sRawWebInit pRawWebInit)
    (M_eq : HasM K a.RWb "__eq__" "Web.__eq__" sWebEq pWebEq)
    (M_keepPc : HasM K a.Pc "keep" "Picture.keep" sPictureKeep pPictureKeep)
    (M_keepRPc : HasM K a.RPc "keep" "Picture.keep" sPictureKeep pPictureKeep)
    (M_Picture : HasM K a.Pc "__init__" "Picture.__init__" sPictureInit pPictureInit)
    (M_RawPicture : HasM K a.RPc "__init__" "RawPicture.__init__" sRawPictureInit pRawPictureInit)
    (H_word : Has K mg "_law_word" sLWord pLWord)
    {f c : Addr} {od an : Option Addr} {sl : Array (Option Value)} {oc kV dc pm ct : Value} (a4 : PySem.W.nsIn K mainGlobals "law" = some (some (.ref f)))
    (lk : K.lookup f = some ⟨oc, od, .func (PySem.W.fnOf "law" "law" (defArgs sLaw) (defBody sLaw) (defScope sLaw) .none kV dc pm an (.ref c) ct), sl⟩) (hcd : PySem.W.codeIn K (.ref c) "law" = true) (chd : PySem.W.codeHdIn K c Pt = true) (hn : K.lookup Pt = none) :
    LamX.LawAtS l w K L2.CX0 12 63 "_law_script" mg fa h := by
  have e := hmg.symm.trans (PySem.W.mg_of X G a4)
  cases e
  refine ⟨PySem.W.fnOf "law" "law" (defArgs sLaw) (defBody sLaw) (defScope sLaw) .none kV dc pm an (.ref c) ct, [(c, Pt)], spLaw K Pt, fun p hp => ?_, fun p hp => ?_, fun p hp => ?_, fun s u => .of_eq rfl, fun H a ns hl _ hT hS => ⟨ns, a, rfl, hS, hl, hT (c, Pt) (List.mem_singleton.mpr rfl), fun _ => rfl⟩, fun base _ _ TB => ?_⟩
  · rw [List.mem_singleton.mp hp]
    exact tb Pt (List.mem_singleton.mpr rfl)
  · rw [List.mem_singleton.mp hp]
    exact hn
  · rw [List.mem_singleton.mp hp]
    exact PySem.W.codeHd_of_K X chd
  · exact law_all (P := l.prog) (w := w) (base := base) T H_is_integer H_is_within H_is_number H_is_prime H_inverse_of H_is_column H_columns_of H_columns_table H_turned_about H_beside_rows H_beneath_rows H_less H_cleared H_reduced_rows H_rank H_kernel H_begins_at H_ends_at H_is_end H_is_begin H_raw_turned_web H_turned_web H_are_sizes H_is_fit_table H_check_turn H_near_places H_joined_table H_kept_rows H_raw_turn H_turn H_lost H__law_purse H__law_part H__law_one H__law_spanned H__law_less H__law_lost_columns H__law_rows H__law_picture H__law_sides H__law_glued H__law_turned H__law_is_turned H__law_turning_web H__law_deep H__law_odd H__law_at_place_right M_keepTb M_keepRTb M_Table M_RawTable M_Web M_RawWeb M_eq M_keepPc M_keepRPc M_Picture M_RawPicture H_word lk hcd (TB (c, Pt) (List.mem_singleton.mpr rfl))
end MW

section
set_option Elab.async false
set_option linter.all false
open PySem PySem.W PyProof.Rows
set_option maxRecDepth 100000
set_option maxHeartbeats 0 in
open_top head for PySem.Challenge.rw_mapwebs_k28_whole_turns_by_own_kernels

end
section
set_option Elab.async false
set_option linter.all false
open PySem PySem.W PyProof.Rows
set_option maxRecDepth 100000 in
set_option maxHeartbeats 0 in
theorem PySem.Challenge.cw_mapwebs_k28_whole_turns_by_own_kernels_holds : PySem.Challenge.rw_mapwebs_k28_whole_turns_by_own_kernels.Holds := by
  refine head ?_
  k_fill
  refine LamX.walk_ofTs (n := 63) (k := 12) (x := "_law_script") (CX := fun _ => L2.CX0) rfl (by decide) rfl ⟨rfl, by decide, by decide⟩ (fun w h Y => PySem.W.km_in_of Y) ?F (fun _ _ _ _ _ z => z)
  case F =>
    intro w mg fa h Y KX G hmg
    have tb := PySem.W.km_tabs_of Y
    clear Y
    have T : MW.Txt (head.heap_39 w.params) mg ⟨174, 195, 273, 294, 375, 396, 100, 24, 103⟩ := {
      blen := PySem.W.mg_none_of KX G (by k_is)
      bisinstance := PySem.W.mg_none_of KX G (by k_is)
      ball := PySem.W.mg_none_of KX G (by k_is)
      bany := PySem.W.mg_none_of KX G (by k_is)
      bsum := PySem.W.mg_none_of KX G (by k_is)
      babs := PySem.W.mg_none_of KX G (by k_is)
      btuple := PySem.W.mg_none_of KX G (by k_is)
      blist := PySem.W.mg_none_of KX G (by k_is)
      bint := PySem.W.mg_none_of KX G (by k_is)
      bbool := PySem.W.mg_none_of KX G (by k_is)
      brange := PySem.W.mg_none_of KX G (by k_is)
      benumerate := PySem.W.mg_none_of KX G (by k_is)
      bzip := PySem.W.mg_none_of KX G (by k_is)
      bValueError := PySem.W.mg_none_of KX G (by k_is)
      cTb := MW.cl_mk KX G (x := "Table") (C := 174) (by k_is) (by k_is) (by k_is) (by k_is) (by k_is) (by k_is) (by k_is) (by k_is) (by k_is)
      cRTb := MW.cl_mk KX G (x := "RawTable") (C := 195) (by k_is) (by k_is) (by k_is) (by k_is) (by k_is) (by k_is) (by k_is) (by k_is) (by k_is)
      cWb := MW.cl_mk KX G (x := "Web") (C := 273) (by k_is) (by k_is) (by k_is) (by k_is) (by k_is) (by k_is) (by k_is) (by k_is) (by k_is)
      cRWb := MW.cl_mk KX G (x := "RawWeb") (C := 294) (by k_is) (by k_is) (by k_is) (by k_is) (by k_is) (by k_is) (by k_is) (by k_is) (by k_is)
      cPc := MW.cl_mk KX G (x := "Picture") (C := 375) (by k_is) (by k_is) (by k_is) (by k_is) (by k_is) (by k_is) (by k_is) (by k_is) (by k_is)
      cRPc := MW.cl_mk KX G (x := "RawPicture") (C := 396) (by k_is) (by k_is) (by k_is) (by k_is) (by k_is) (by k_is) (by k_is) (by k_is) (by k_is)
      nTb := ⟨(show PySem.W.findIn (head.heap_39 w.params) (.ref 174) "prime" = some none by k_is), (show PySem.W.findIn (head.heap_39 w.params) (.ref 174) "wide" = some none by k_is), (show PySem.W.findIn (head.heap_39 w.params) (.ref 174) "rows" = some none by k_is), (show PySem.W.findIn (head.heap_39 w.params) (.ref 174) "high" = some none by k_is)⟩
      nRTb := ⟨(show PySem.W.findIn (head.heap_39 w.params) (.ref 195) "prime" = some none by k_is), (show PySem.W.findIn (head.heap_39 w.params) (.ref 195) "wide" = some none by k_is), (show PySem.W.findIn (head.heap_39 w.params) (.ref 195) "rows" = some none by k_is), (show PySem.W.findIn (head.heap_39 w.params) (.ref 195) "high" = some none by k_is)⟩
      nWb := ⟨(show PySem.W.findIn (head.heap_39 w.params) (.ref 273) "many" = some none by k_is), (show PySem.W.findIn (head.heap_39 w.params) (.ref 273) "arrows" = some none by k_is)⟩
      nRWb := ⟨(show PySem.W.findIn (head.heap_39 w.params) (.ref 294) "many" = some none by k_is), (show PySem.W.findIn (head.heap_39 w.params) (.ref 294) "arrows" = some none by k_is)⟩
      nPc := ⟨(show PySem.W.findIn (head.heap_39 w.params) (.ref 375) "web" = some none by k_is), (show PySem.W.findIn (head.heap_39 w.params) (.ref 375) "prime" = some none by k_is), (show PySem.W.findIn (head.heap_39 w.params) (.ref 375) "sizes" = some none by k_is), (show PySem.W.findIn (head.heap_39 w.params) (.ref 375) "tables" = some none by k_is)⟩
      nRPc := ⟨(show PySem.W.findIn (head.heap_39 w.params) (.ref 396) "web" = some none by k_is), (show PySem.W.findIn (head.heap_39 w.params) (.ref 396) "prime" = some none by k_is), (show PySem.W.findIn (head.heap_39 w.params) (.ref 396) "sizes" = some none by k_is), (show PySem.W.findIn (head.heap_39 w.params) (.ref 396) "tables" = some none by k_is)⟩
      kRTb := (show PySem.W.kitOne (head.heap_39 w.params) (.ref 195) (.ref 174) = some true by kit_is)
      kRWb := (show PySem.W.kitOne (head.heap_39 w.params) (.ref 294) (.ref 273) = some true by kit_is)
      kRPc := (show PySem.W.kitOne (head.heap_39 w.params) (.ref 396) (.ref 375) = some true by kit_is)
      kTb := (show PySem.W.kitOne (head.heap_39 w.params) (.ref 174) (.ref 174) = some true by kit_is)
      kWb := (show PySem.W.kitOne (head.heap_39 w.params) (.ref 273) (.ref 273) = some true by kit_is)
      kPc := (show PySem.W.kitOne (head.heap_39 w.params) (.ref 375) (.ref 375) = some true by kit_is)
      nfW := (show PySem.W.notFirst (head.heap_39 w.params) 294 (.ref 273) = true by k_is)
      nfR := (show PySem.W.notFirst (head.heap_39 w.params) 294 (.ref 294) = true by k_is)
      cNT := PySem.W.mg_of KX G (show PySem.W.nsIn (head.heap_39 w.params) mainGlobals "NoTurn" = some (some (.ref 100)) by k_is)
      kNT := (show PySem.W.keepIn (head.heap_39 w.params) (.ref 100) = true by k_is)
      xNT := (show PySem.W.excIn (head.heap_39 w.params) 100 [.type "ValueError", .type "Exception", .type "BaseException", .type "object"] "ValueError.__new__" = true by k_exc)
      bNT := (show PySem.W.subIn (head.heap_39 w.params) (.ref 100) (.type "BaseException") = some true by k_is)
      tNT := (show PySem.W.typeIn (head.heap_39 w.params) (.ref 100) = some (.type "type") by k_is)
      cWE := PySem.W.mg_of KX G (show PySem.W.nsIn (head.heap_39 w.params) mainGlobals "WebError" = some (some (.ref 24)) by k_is)
      eNT := MW.exm_mk (show PySem.W.subIn (head.heap_39 w.params) (.ref 24) (.type "BaseException") = some true by k_is) (show PySem.W.isClsIn (head.heap_39 w.params) 24 = true by k_is) (show PySem.W.typeIn (head.heap_39 w.params) (.ref 24) = some (.type "type") by k_is) (show PySem.W.subIn (head.heap_39 w.params) (.ref 100) (.ref 24) = some true by k_is)
      iNT := (show PySem.W.kitOne (head.heap_39 w.params) (.ref 100) (.ref 100) = some true by kit_is)
      vNT := (show PySem.W.kitOne (head.heap_39 w.params) (.ref 100) (.type "ValueError") = some true by kit_is)
      ecNT := ⟨(show PySem.W.findIn (head.heap_39 w.params) (.ref 100) "__getattribute__" = some (some (.builtin "BaseException.__getattribute__")) by k_is), (show PySem.W.findIn (head.heap_39 w.params) (.ref 100) "__getattr__" = some none by k_is), (show PySem.W.subIn (head.heap_39 w.params) (.ref 100) (.type "BaseException") = some true by k_is), (show PySem.W.hasDictIn (head.heap_39 w.params) 100 = true by k_is), (show PySem.W.findIn (head.heap_39 w.params) (.ref 100) "__class__" = some (some (.builtin "object.__class__")) by k_is), (show PySem.W.specialIn (head.heap_39 w.params) (.builtin "object.__class__") "__get__" = some (some (.builtin "getset_descriptor.__get__")) by k_is), (show PySem.W.takesIn (head.heap_39 w.params) (.builtin "object.__class__") = some true by k_is), (show PySem.W.mroIn (head.heap_39 w.params) 100 (.type "object") = some true by k_is)⟩
      cget := (show PySem.W.specialIn (head.heap_39 w.params) (.builtin "object.__class__") "__get__" = some (some (.builtin "getset_descriptor.__get__")) by k_is)
      ctk := (show PySem.W.takesIn (head.heap_39 w.params) (.builtin "object.__class__") = some true by k_is)
      MOST := MW.int_mk KX G (x := "MOST") (n := 12) (by k_is)
      MOST_PLACES := MW.int_mk KX G (x := "MOST_PLACES") (n := 8) (by k_is)
      MOST_ARROWS := MW.int_mk KX G (x := "MOST_ARROWS") (n := 12) (by k_is)
      MOST_SIZE := MW.int_mk KX G (x := "MOST_SIZE") (n := 6) (by k_is)
      mgPRIMES := PySem.W.mg_of KX G (show PySem.W.nsIn (head.heap_39 w.params) mainGlobals "PRIMES" = some (some (.ref 103)) by k_is)
      primes := MW.primes_mk (p := 103) (by k_is) }
    have H_is_integer := MW.has_mk KX G (x := "is_integer") (st := MW.sIsInteger) (ps := MW.pIsInteger) (f := 110) (fun _ _ _ _ _ _ us hl => match us, hl with | [_], _ => rfl) (by k_is) (by k_is) (by k_is) (by k_is)
    have H_is_within := MW.has_mk KX G (x := "is_within") (st := MW.sIsWithin) (ps := MW.pIsWithin) (f := 117) (fun _ _ _ _ _ _ us hl => match us, hl with | [_, _, _], _ => rfl) (by k_is) (by k_is) (by k_is) (by k_is)
    have H_is_number := MW.has_mk KX G (x := "is_number") (st := MW.sIsNumber) (ps := MW.pIsNumber) (f := 124) (fun _ _ _ _ _ _ us hl => match us, hl with | [_, _], _ => rfl) (by k_is) (by k_is) (by k_is) (by k_is)
    have H_is_prime := MW.has_mk KX G (x := "is_prime") (st := MW.sIsPrime) (ps := MW.pIsPrime) (f := 131) (fun _ _ _ _ _ _ us hl => match us, hl with | [_], _ => rfl) (by k_is) (by k_is) (by k_is) (by k_is)
    have H_inverse_of := MW.has_mk KX G (x := "inverse_of") (st := MW.sInverseOf) (ps := MW.pInverseOf) (f := 138) (fun _ _ _ _ _ _ us hl => match us, hl with | [_, _], _ => rfl) (by k_is) (by k_is) (by k_is) (by k_is)
    have H_is_column := MW.has_mk KX G (x := "is_column") (st := MW.sIsColumn) (ps := MW.pIsColumn) (f := 143) (fun _ _ _ _ _ _ us hl => match us, hl with | [_, _, _], _ => rfl) (by k_is) (by k_is) (by k_is) (by k_is)
    have H_columns_of := MW.has_mk KX G (x := "columns_of") (st := MW.sColumnsOf) (ps := MW.pColumnsOf) (f := 202) (fun _ _ _ _ _ _ us hl => match us, hl with | [_], _ => rfl) (by k_is) (by k_is) (by k_is) (by k_is)
    have H_columns_table := MW.has_mk KX G (x := "columns_table") (st := MW.sColumnsTable) (ps := MW.pColumnsTable) (f := 207) (fun _ _ _ _ _ _ us hl => match us, hl with | [_, _, _], _ => rfl) (by k_is) (by k_is) (by k_is) (by k_is)
    have H_turned_about := MW.has_mk KX G (x := "turned_about") (st := MW.sTurnedAbout) (ps := MW.pTurnedAbout) (f := 214) (fun _ _ _ _ _ _ us hl => match us, hl with | [_], _ => rfl) (by k_is) (by k_is) (by k_is) (by k_is)
    have H_beside_rows := MW.has_mk KX G (x := "beside_rows") (st := MW.sBesideRows) (ps := MW.pBesideRows) (f := 219) (fun _ _ _ _ _ _ us hl => match us, hl with | [_, _, _], _ => rfl) (by k_is) (by k_is) (by k_is) (by k_is)
    have H_beneath_rows := MW.has_mk KX G (x := "beneath_rows") (st := MW.sBeneathRows) (ps := MW.pBeneathRows) (f := 224) (fun _ _ _ _ _ _ us hl => match us, hl with | [_, _, _], _ => rfl) (by k_is) (by k_is) (by k_is) (by k_is)
    have H_less := MW.has_mk KX G (x := "less") (st := MW.sLess) (ps := MW.pLess) (f := 229) (fun _ _ _ _ _ _ us hl => match us, hl with | [_, _, _, _], _ => rfl) (by k_is) (by k_is) (by k_is) (by k_is)
    have H_cleared := MW.has_mk KX G (x := "cleared") (st := MW.sCleared) (ps := MW.pCleared) (f := 234) (fun _ _ _ _ _ _ us hl => match us, hl with | [_, _, _, _], _ => rfl) (by k_is) (by k_is) (by k_is) (by k_is)
    have H_reduced_rows := MW.has_mk KX G (x := "reduced_rows") (st := MW.sReducedRows) (ps := MW.pReducedRows) (f := 239) (fun _ _ _ _ _ _ us hl => match us, hl with | [_, _, _], _ => rfl) (by k_is) (by k_is) (by k_is) (by k_is)
    have H_rank := MW.has_mk KX G (x := "rank") (st := MW.sRank) (ps := MW.pRank) (f := 246) (fun _ _ _ _ _ _ us hl => match us, hl with | [_], _ => rfl) (by k_is) (by k_is) (by k_is) (by k_is)
    have H_kernel := MW.has_mk KX G (x := "kernel") (st := MW.sKernel) (ps := MW.pKernel) (f := 251) (fun _ _ _ _ _ _ us hl => match us, hl with | [_], _ => rfl) (by k_is) (by k_is) (by k_is) (by k_is)
    have H_begins_at := MW.has_mk KX G (x := "begins_at") (st := MW.sBeginsAt) (ps := MW.pBeginsAt) (f := 301) (fun _ _ _ _ _ _ us hl => match us, hl with | [_, _], _ => rfl) (by k_is) (by k_is) (by k_is) (by k_is)
    have H_ends_at := MW.has_mk KX G (x := "ends_at") (st := MW.sEndsAt) (ps := MW.pEndsAt) (f := 306) (fun _ _ _ _ _ _ us hl => match us, hl with | [_, _], _ => rfl) (by k_is) (by k_is) (by k_is) (by k_is)
    have H_is_end := MW.has_mk KX G (x := "is_end") (st := MW.sIsEnd) (ps := MW.pIsEnd) (f := 313) (fun _ _ _ _ _ _ us hl => match us, hl with | [_, _], _ => rfl) (by k_is) (by k_is) (by k_is) (by k_is)
    have H_is_begin := MW.has_mk KX G (x := "is_begin") (st := MW.sIsBegin) (ps := MW.pIsBegin) (f := 320) (fun _ _ _ _ _ _ us hl => match us, hl with | [_, _], _ => rfl) (by k_is) (by k_is) (by k_is) (by k_is)
    have H_raw_turned_web := MW.has_mk KX G (x := "raw_turned_web") (st := MW.sRawTurnedWeb) (ps := MW.pRawTurnedWeb) (f := 325) (fun _ _ _ _ _ _ us hl => match us, hl with | [_, _], _ => rfl) (by k_is) (by k_is) (by k_is) (by k_is)
    have H_turned_web := MW.has_mk KX G (x := "turned_web") (st := MW.sTurnedWeb) (ps := MW.pTurnedWeb) (f := 332) (fun _ _ _ _ _ _ us hl => match us, hl with | [_, _], _ => rfl) (by k_is) (by k_is) (by k_is) (by k_is)
    have H_are_sizes := MW.has_mk KX G (x := "are_sizes") (st := MW.sAreSizes) (ps := MW.pAreSizes) (f := 337) (fun _ _ _ _ _ _ us hl => match us, hl with | [_, _], _ => rfl) (by k_is) (by k_is) (by k_is) (by k_is)
    have H_is_fit_table := MW.has_mk KX G (x := "is_fit_table") (st := MW.sIsFitTable) (ps := MW.pIsFitTable) (f := 344) (fun _ _ _ _ _ _ us hl => match us, hl with | [_, _, _, _], _ => rfl) (by k_is) (by k_is) (by k_is) (by k_is)
    have H_check_turn := MW.has_mk KX G (x := "check_turn") (st := MW.sCheckTurn) (ps := MW.pCheckTurn) (f := 405) (fun _ _ _ _ _ _ us hl => match us, hl with | [_, _], _ => rfl) (by k_is) (by k_is) (by k_is) (by k_is)
    have H_near_places := MW.has_mk KX G (x := "near_places") (st := MW.sNearPlaces) (ps := MW.pNearPlaces) (f := 410) (fun _ _ _ _ _ _ us hl => match us, hl with | [_, _], _ => rfl) (by k_is) (by k_is) (by k_is) (by k_is)
    have H_joined_table := MW.has_mk KX G (x := "joined_table") (st := MW.sJoinedTable) (ps := MW.pJoinedTable) (f := 415) (fun _ _ _ _ _ _ us hl => match us, hl with | [_, _], _ => rfl) (by k_is) (by k_is) (by k_is) (by k_is)
    have H_kept_rows := MW.has_mk KX G (x := "kept_rows") (st := MW.sKeptRows) (ps := MW.pKeptRows) (f := 422) (fun _ _ _ _ _ _ us hl => match us, hl with | [_, _], _ => rfl) (by k_is) (by k_is) (by k_is) (by k_is)
    have H_raw_turn := MW.has_mk KX G (x := "raw_turn") (st := MW.sRawTurn) (ps := MW.pRawTurn) (f := 427) (fun _ _ _ _ _ _ us hl => match us, hl with | [_, _], _ => rfl) (by k_is) (by k_is) (by k_is) (by k_is)
    have H_turn := MW.has_mk KX G (x := "turn") (st := MW.sTurn) (ps := MW.pTurn) (f := 434) (fun _ _ _ _ _ _ us hl => match us, hl with | [_, _], _ => rfl) (by k_is) (by k_is) (by k_is) (by k_is)
    have H_lost := MW.has_mk KX G (x := "lost") (st := MW.sLost) (ps := MW.pLost) (f := 441) (fun _ _ _ _ _ _ us hl => match us, hl with | [_, _], _ => rfl) (by k_is) (by k_is) (by k_is) (by k_is)
    have H__law_purse := MW.has_mk KX G (x := "_law_purse") (st := MW.sLPurse) (ps := MW.pLPurse) (f := 446) (fun _ _ _ _ _ _ us hl => match us, hl with | [_], _ => rfl) (by k_is) (by k_is) (by k_is) (by k_is)
    have H__law_part := MW.has_mk KX G (x := "_law_part") (st := MW.sLPart) (ps := MW.pLPart) (f := 453) (fun _ _ _ _ _ _ us hl => match us, hl with | [_, _], _ => rfl) (by k_is) (by k_is) (by k_is) (by k_is)
    have H__law_one := MW.has_mk KX G (x := "_law_one") (st := MW.sLOne) (ps := MW.pLOne) (f := 460) (fun _ _ _ _ _ _ us hl => match us, hl with | [_, _], _ => rfl) (by k_is) (by k_is) (by k_is) (by k_is)
    have H__law_spanned := MW.has_mk KX G (x := "_law_spanned") (st := MW.sLSpanned) (ps := MW.pLSpanned) (f := 465) (fun _ _ _ _ _ _ us hl => match us, hl with | [_, _], _ => rfl) (by k_is) (by k_is) (by k_is) (by k_is)
    have H__law_less := MW.has_mk KX G (x := "_law_less") (st := MW.sLLess) (ps := MW.pLLess) (f := 470) (fun _ _ _ _ _ _ us hl => match us, hl with | [_, _, _, _], _ => rfl) (by k_is) (by k_is) (by k_is) (by k_is)
    have H__law_lost_columns := MW.has_mk KX G (x := "_law_lost_columns") (st := MW.sLLostColumns) (ps := MW.pLLostColumns) (f := 475) (fun _ _ _ _ _ _ us hl => match us, hl with | [_, _, _], _ => rfl) (by k_is) (by k_is) (by k_is) (by k_is)
    have H__law_rows := MW.has_mk KX G (x := "_law_rows") (st := MW.sLRows) (ps := MW.pLRows) (f := 480) (fun _ _ _ _ _ _ us hl => match us, hl with | [_, _, _, _], _ => rfl) (by k_is) (by k_is) (by k_is) (by k_is)
    have H__law_picture := MW.has_mk KX G (x := "_law_picture") (st := MW.sLPicture) (ps := MW.pLPicture) (f := 485) (fun _ _ _ _ _ _ us hl => match us, hl with | [_, _, _, _], _ => rfl) (by k_is) (by k_is) (by k_is) (by k_is)
    have H__law_sides := MW.has_mk KX G (x := "_law_sides") (st := MW.sLSides) (ps := MW.pLSides) (f := 490) (fun _ _ _ _ _ _ us hl => match us, hl with | [_, _], _ => rfl) (by k_is) (by k_is) (by k_is) (by k_is)
    have H__law_glued := MW.has_mk KX G (x := "_law_glued") (st := MW.sLGlued) (ps := MW.pLGlued) (f := 495) (fun _ _ _ _ _ _ us hl => match us, hl with | [_, _], _ => rfl) (by k_is) (by k_is) (by k_is) (by k_is)
    have H__law_turned := MW.has_mk KX G (x := "_law_turned") (st := MW.sLTurned) (ps := MW.pLTurned) (f := 500) (fun _ _ _ _ _ _ us hl => match us, hl with | [_, _], _ => rfl) (by k_is) (by k_is) (by k_is) (by k_is)
    have H__law_is_turned := MW.has_mk KX G (x := "_law_is_turned") (st := MW.sLIsTurned) (ps := MW.pLIsTurned) (f := 505) (fun _ _ _ _ _ _ us hl => match us, hl with | [_, _, _], _ => rfl) (by k_is) (by k_is) (by k_is) (by k_is)
    have H__law_turning_web := MW.has_mk KX G (x := "_law_turning_web") (st := MW.sLTurningWeb) (ps := MW.pLTurningWeb) (f := 510) (fun _ _ _ _ _ _ us hl => match us, hl with | [_], _ => rfl) (by k_is) (by k_is) (by k_is) (by k_is)
    have H__law_deep := MW.has_mk KX G (x := "_law_deep") (st := MW.sLDeep) (ps := MW.pLDeep) (f := 517) (fun _ _ _ _ _ _ us hl => match us, hl with | [_], _ => rfl) (by k_is) (by k_is) (by k_is) (by k_is)
    have H__law_odd := MW.has_mk KX G (x := "_law_odd") (st := MW.sLOdd) (ps := MW.pLOdd) (f := 524) (fun _ _ _ _ _ _ us hl => match us, hl with | [_], _ => rfl) (by k_is) (by k_is) (by k_is) (by k_is)
    have H__law_at_place_right := MW.has_mk KX G (x := "_law_at_place_right") (st := MW.sLAtPlaceRight) (ps := MW.pLAtPlaceRight) (f := 536) (fun _ _ _ _ _ _ us hl => match us, hl with | [_, _], _ => rfl) (by k_is) (by k_is) (by k_is) (by k_is)
    have H__law_word := MW.has_mk KX G (x := "_law_word") (st := MW.sLWord) (ps := MW.pLWord) (f := 531) (fun _ _ _ _ _ _ us hl => match us, hl with | [_], _ => rfl) (by k_is) (by k_is) (by k_is) (by k_is)
    have M_keepTb := MW.hasM_mk (K := (head.heap_39 w.params)) (C := 174) (m := "keep") (qual := "Table.keep") (st := MW.sTableKeep) (ps := MW.pTableKeep) (fun _ _ _ _ _ _ us hl => match us, hl with | [_, _, _, _], _ => rfl) (by k_is) (by k_is) (by k_is) (by k_is) (by k_is)
    have M_keepRTb := MW.hasM_mk (K := (head.heap_39 w.params)) (C := 195) (m := "keep") (qual := "Table.keep") (st := MW.sTableKeep) (ps := MW.pTableKeep) (fun _ _ _ _ _ _ us hl => match us, hl with | [_, _, _, _], _ => rfl) (by k_is) (by k_is) (by k_is) (by k_is) (by k_is)
    have M_Table := MW.hasM_mk (K := (head.heap_39 w.params)) (C := 174) (m := "__init__") (qual := "Table.__init__") (st := MW.sTableInit) (ps := MW.pTableInit) (fun _ _ _ _ _ _ us hl => match us, hl with | [_, _, _, _], _ => rfl) (by k_is) (by k_is) (by k_is) (by k_is) (by k_is)
    have M_RawTable := MW.hasM_mk (K := (head.heap_39 w.params)) (C := 195) (m := "__init__") (qual := "RawTable.__init__") (st := MW.sRawTableInit) (ps := MW.pRawTableInit) (fun _ _ _ _ _ _ us hl => match us, hl with | [_, _, _, _], _ => rfl) (by k_is) (by k_is) (by k_is) (by k_is) (by k_is)
    have M_Web := MW.hasM_mk (K := (head.heap_39 w.params)) (C := 273) (m := "__init__") (qual := "Web.__init__") (st := MW.sWebInit) (ps := MW.pWebInit) (fun _ _ _ _ _ _ us hl => match us, hl with | [_, _, _], _ => rfl) (by k_is) (by k_is) (by k_is) (by k_is) (by k_is)
    have M_RawWeb := MW.hasM_mk (K := (head.heap_39 w.params)) (C := 294) (m := "__init__") (qual := "RawWeb.__init__") (st := MW.sRawWebInit) (ps := MW.pRawWebInit) (fun _ _ _ _ _ _ us hl => match us, hl with | [_, _, _], _ => rfl) (by k_is) (by k_is) (by k_is) (by k_is) (by k_is)
    have M_eq := MW.hasM_mk (K := (head.heap_39 w.params)) (C := 294) (m := "__eq__") (qual := "Web.__eq__") (st := MW.sWebEq) (ps := MW.pWebEq) (fun _ _ _ _ _ _ us hl => match us, hl with | [_, _], _ => rfl) (by k_is) (by k_is) (by k_is) (by k_is) (by k_is)
    have M_keepPc := MW.hasM_mk (K := (head.heap_39 w.params)) (C := 375) (m := "keep") (qual := "Picture.keep") (st := MW.sPictureKeep) (ps := MW.pPictureKeep) (fun _ _ _ _ _ _ us hl => match us, hl with | [_, _, _, _, _], _ => rfl) (by k_is) (by k_is) (by k_is) (by k_is) (by k_is)
    have M_keepRPc := MW.hasM_mk (K := (head.heap_39 w.params)) (C := 396) (m := "keep") (qual := "Picture.keep") (st := MW.sPictureKeep) (ps := MW.pPictureKeep) (fun _ _ _ _ _ _ us hl => match us, hl with | [_, _, _, _, _], _ => rfl) (by k_is) (by k_is) (by k_is) (by k_is) (by k_is)
    have M_Picture := MW.hasM_mk (K := (head.heap_39 w.params)) (C := 375) (m := "__init__") (qual := "Picture.__init__") (st := MW.sPictureInit) (ps := MW.pPictureInit) (fun _ _ _ _ _ _ us hl => match us, hl with | [_, _, _, _, _], _ => rfl) (by k_is) (by k_is) (by k_is) (by k_is) (by k_is)
    have M_RawPicture := MW.hasM_mk (K := (head.heap_39 w.params)) (C := 396) (m := "__init__") (qual := "RawPicture.__init__") (st := MW.sRawPictureInit) (ps := MW.pRawPictureInit) (fun _ _ _ _ _ _ us hl => match us, hl with | [_, _, _, _, _], _ => rfl) (by k_is) (by k_is) (by k_is) (by k_is) (by k_is)
    refine MW.law_end KX G hmg tb T H_is_integer H_is_within H_is_number H_is_prime H_inverse_of H_is_column H_columns_of H_columns_table H_turned_about H_beside_rows H_beneath_rows H_less H_cleared H_reduced_rows H_rank H_kernel H_begins_at H_ends_at H_is_end H_is_begin H_raw_turned_web H_turned_web H_are_sizes H_is_fit_table H_check_turn H_near_places H_joined_table H_kept_rows H_raw_turn H_turn H_lost H__law_purse H__law_part H__law_one H__law_spanned H__law_less H__law_lost_columns H__law_rows H__law_picture H__law_sides H__law_glued H__law_turned H__law_is_turned H__law_turning_web H__law_deep H__law_odd H__law_at_place_right M_keepTb M_keepRTb M_Table M_RawTable M_Web M_RawWeb M_eq M_keepPc M_keepRPc M_Picture M_RawPicture H__law_word (f := 541) (by k_is) (by k_is) (by k_is) (by kernel_rfl) (by kernel_rfl)

end
