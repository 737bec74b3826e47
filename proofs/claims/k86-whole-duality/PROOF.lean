import PyProof.Rows.All
import Wide.All
import OpenK.AllK
import Wide.FinOn
import HandS.ForMost
import HandS.Walk
import HandS.Zip
import HandS.IsInst
import HandS.TupAny
import HandS.TupMul
import HandS.Wide
import HandS.WideBits
import HandS.Defaults
import HandS.Iter
import HandS.Conv
import HandS.Dict
import HandS.More
import HandS.SortKw
import HandS.SortInts
import KE.GoesEnum
import KE.GoesMore
import KE.DataAny
import HandS.Star
import HandS.ClsMeth
import HandS.Property
import HandS.MethStar
import HandS.OwnEq
import HandS.GenCall
import HandS.GenList
import HandS.GenYield
import PyProof.InstEq
import HandS.HeadNt
import HandS.HeadHook3
import HandS.Codes
import KE.SortData
import HandS.GenBody
import HandS.TupLen
import KE.KDictSum
import PyProof.Rows.TupDisplay
import ObjForm.LawKit
import HandS.Head0
import HandS.Head1
import HandS.Head2
import HandS.HeadEnd
import HandS.HeadHook1
import HandS.HeadHook2
import Lean
import PySem.Challenge.RW_wordlaws_k86_whole_duality
set_option Elab.async false
set_option linter.all false
set_option maxRecDepth 100000
set_option maxHeartbeats 0
section
/-! Vectors of words: spans over the integers modulo 2 ^ w, Howell bases, their uniqueness, the double annihilator. Core Lean alone. -/
namespace WM
theorem dv0 {M c : Int} (e : c = 0) : M ∣ c := ⟨0, by rw [e]; simp⟩
theorem dv1 {M a c : Int} (x : Int) (h : M ∣ a) (e : c = x * a) : M ∣ c := by
  obtain ⟨j, rfl⟩ := h
  exact ⟨x * j, by rw [e]; grind⟩
theorem dv2 {M a b c : Int} (x y : Int) (h : M ∣ a) (h2 : M ∣ b) (e : c = x * a + y * b) : M ∣ c := by
  obtain ⟨j, rfl⟩ := h
  obtain ⟨k, rfl⟩ := h2
  exact ⟨x * j + y * k, by rw [e]; grind⟩
theorem dv3 {M a b d c : Int} (x y z : Int) (h : M ∣ a) (h2 : M ∣ b) (h3 : M ∣ d) (e : c = x * a + y * b + z * d) : M ∣ c := by
  obtain ⟨j, rfl⟩ := h
  obtain ⟨k, rfl⟩ := h2
  obtain ⟨l, rfl⟩ := h3
  exact ⟨x * j + y * k + z * l, by rw [e]; grind⟩
abbrev Fn := Nat → Int
def ix (v : List Int) : Fn := fun i => v.getD i 0
inductive Sp (M : Int) (n : Nat) (S : List (List Int)) : Fn → Prop
  | zero {v : Fn} : (∀ i, i < n → M ∣ v i) → Sp M n S v
  | add {u v : Fn} {s : List Int} {k : Int} : s ∈ S → Sp M n S v → (∀ i, i < n → M ∣ u i - (v i + k * ix s i)) → Sp M n S u
section
variable {M : Int} {n : Nat} {S T : List (List Int)} {u v : Fn} {k : Int} {s : List Int}
theorem Sp.congr (h : Sp M n S v) : ∀ {u : Fn}, (∀ i, i < n → M ∣ u i - v i) → Sp M n S u := by
  induction h with
  | zero h0 =>
    intro u hu
    exact .zero fun i hi => dv2 1 1 (hu i hi) (h0 i hi) (by grind)
  | @add u' v s j hs h1 h2 ih =>
    intro u hu
    refine .add (k := j) hs h1 fun i hi => dv2 1 1 (hu i hi) (h2 i hi) (by grind)
theorem Sp.plus (hu : Sp M n S u) (hv : Sp M n S v) : Sp M n S (fun i => u i + v i) := by
  induction hu with
  | zero h0 => exact hv.congr fun i hi => dv1 1 (h0 i hi) (by grind)
  | @add u v s j hs h1 h2 ih => exact .add (k := j) hs ih fun i hi => dv1 1 (h2 i hi) (by grind)
theorem Sp.smul (hu : Sp M n S u) (k : Int) : Sp M n S (fun i => k * u i) := by
  induction hu with
  | zero h0 => exact .zero fun i hi => dv1 k (h0 i hi) rfl
  | @add u v s j hs h1 h2 ih =>
    exact .add (k := k * j) hs ih fun i hi => dv1 k (h2 i hi) (by grind)
theorem Sp.comb (hu : Sp M n S u) (hv : Sp M n S v) (a b : Int) : Sp M n S (fun i => a * u i + b * v i) := (hu.smul a).plus (hv.smul b)
theorem Sp.mem (h : s ∈ S) : Sp M n S (ix s) := .add (v := fun _ => 0) (k := 1) h (.zero fun _ _ => dv0 rfl) fun _ _ => dv0 (by grind)
theorem Sp.sub (hv : Sp M n S v) (h : ∀ s ∈ S, Sp M n T (ix s)) : Sp M n T v := by
  induction hv with
  | zero h0 => exact .zero h0
  | @add u v s j hs h1 h2 ih => exact ((ih.plus ((h s hs).smul j))).congr h2
theorem Sp.mono (hv : Sp M n S v) (h : ∀ s ∈ S, s ∈ T) : Sp M n T v := hv.sub fun s hs => .mem (h s hs)
theorem Sp.cons (h : Sp M n (s :: S) v) : ∃ k, Sp M n S (fun i => v i - k * ix s i) := by
  induction h with
  | zero h0 => exact ⟨0, .zero fun i hi => dv1 1 (h0 i hi) (by grind)⟩
  | @add u v s' j hs h1 h2 ih =>
    obtain ⟨k, ih⟩ := ih
    rcases List.mem_cons.mp hs with e | e
    · subst e
      exact ⟨k + j, ih.congr fun i hi => dv1 1 (h2 i hi) (by grind)⟩
    · exact ⟨k, .add (k := j) e ih fun i hi => dv1 1 (h2 i hi) (by grind)⟩
theorem Sp.of_cons (h : Sp M n S (fun i => v i - k * ix s i)) : Sp M n (s :: S) v :=
  .add (k := k) List.mem_cons_self (h.mono fun _ h => List.mem_cons_of_mem _ h) fun i _ => dv0 (by grind)
theorem Sp.nil (h : Sp M n [] v) : ∀ i, i < n → M ∣ v i := by
  cases h with
  | zero h => exact h
  | add hs => cases hs
theorem Sp.at0 (h : Sp M n S v) {i : Nat} (hi : i < n) (hz : ∀ s ∈ S, M ∣ ix s i) : M ∣ v i := by
  induction h with
  | zero h => exact h i hi
  | @add u v s j hs h1 h2 ih =>
    exact dv3 1 1 j (h2 i hi) ih (hz s hs) (by grind)
theorem Sp.dvd (h : Sp M n S v) {p : Int} {i : Nat} (hi : i < n) (hp : p ∣ M) (hz : ∀ s ∈ S, p ∣ ix s i) : p ∣ v i := by
  induction h with
  | zero h => exact Int.dvd_trans hp (h i hi)
  | @add u v s j hs h1 h2 ih =>
    exact dv3 1 1 j (Int.dvd_trans hp (h2 i hi)) ih (hz s hs) (by grind)
theorem Sp.perm (h : Sp M n S v) (hm : ∀ s, s ∈ S → s ∈ T) : Sp M n T v := h.mono hm
end
/-! ### Howell bases -/
def IsVec (w n : Nat) (v : List Int) : Prop := v.length = n ∧ ∀ x ∈ v, 0 ≤ x ∧ x < 2 ^ w
def Lead (w n : Nat) (r : List Int) (c : Nat) : Prop := c < n ∧ (∀ i, i < c → ix r i = 0) ∧ ∃ k, k < w ∧ ix r c = 2 ^ k
def HB (w n : Nat) : Nat → List (List Int) → Prop
  | _, [] => True
  | lo, r :: rs => ∃ c, lo ≤ c ∧ Lead w n r c ∧ HB w n (c + 1) rs ∧ (∀ s ∈ rs, ∀ d, Lead w n s d → ix r d < ix s d) ∧ Sp (2 ^ w) n rs (fun i => 2 ^ w / ix r c * ix r i)
/-- a basis: rows that are vectors, in Howell form -/
def Bas (w n : Nat) (B : List (List Int)) : Prop := (∀ r ∈ B, IsVec w n r) ∧ HB w n 0 B
abbrev SpB (w n : Nat) (S : List (List Int)) (v : Fn) : Prop := Sp (2 ^ w) n S v
section
variable {w n : Nat} {r s : List Int} {c d lo : Nat} {B B' rs : List (List Int)} {v : Fn}
theorem pow_pos2 (k : Nat) : (0 : Int) < 2 ^ k := Int.pow_pos (by decide)
theorem pow_dvd {k w : Nat} (h : k ≤ w) : (2 : Int) ^ k ∣ 2 ^ w := ⟨2 ^ (w - k), by rw [← Int.pow_add]; congr 1; omega⟩
theorem pow_div {k w : Nat} (h : k ≤ w) : (2 : Int) ^ w / 2 ^ k = 2 ^ (w - k) := by
  have e : (2 : Int) ^ w = 2 ^ k * 2 ^ (w - k) := by rw [← Int.pow_add]; congr 1; omega
  rw [e]
  exact Int.mul_ediv_cancel_left _ (Int.ne_of_gt (pow_pos2 k))
theorem pow_mul_div {k w : Nat} (h : k ≤ w) : (2 : Int) ^ w / 2 ^ k * 2 ^ k = 2 ^ w := by
  rw [pow_div h, ← Int.pow_add]; congr 1; omega
theorem pow_lt_pow {k w : Nat} (h : k < w) : (2 : Int) ^ k < 2 ^ w := by
  have e : (2 : Int) ^ w = 2 ^ k * 2 ^ (w - k) := by rw [← Int.pow_add]; congr 1; omega
  have h1 : (2 : Int) ^ (w - k) = 2 * 2 ^ (w - k - 1) := by
    have e2 : w - k = (w - k - 1) + 1 := by omega
    rw [e2, Int.pow_succ]; simp; grind
  have := pow_pos2 k
  have := pow_pos2 (w - k - 1)
  have h2 : (2 : Int) ^ k * 1 < 2 ^ k * 2 ^ (w - k) := Int.mul_lt_mul_of_pos_left (by omega) (by omega)
  omega
theorem not_dvd_pow {k w : Nat} (h : k < w) : ¬ (2 : Int) ^ w ∣ 2 ^ k := fun h1 => by
  have := Int.le_of_dvd (pow_pos2 k) h1
  have := pow_lt_pow h
  omega
theorem Lead.pos (h : Lead w n r c) : 0 < ix r c := by obtain ⟨_, _, k, _, e⟩ := h; rw [e]; exact pow_pos2 k
theorem Lead.inj (h : Lead w n r c) (h' : Lead w n r d) : c = d := by
  have p := h.pos
  have p' := h'.pos
  rcases Nat.lt_trichotomy c d with l | l | l
  · have := h'.2.1 c l; omega
  · exact l
  · have := h.2.1 d l; omega
theorem HB.lead : ∀ {B : List (List Int)} {lo : Nat}, HB w n lo B → ∀ s ∈ B, ∃ d, lo ≤ d ∧ Lead w n s d
  | [], _, _, s, hs => by cases hs
  | r :: rs, lo, h, s, hs => by
    obtain ⟨c, hc, hl, ht, _⟩ := h
    rcases List.mem_cons.mp hs with e | e
    · subst e; exact ⟨c, hc, hl⟩
    · obtain ⟨d, hd, hl'⟩ := ht.lead s e
      exact ⟨d, by omega, hl'⟩
theorem HB.zero {i : Nat} (h : HB w n lo B) (hi : i < lo) : ∀ s ∈ B, ix s i = 0 := fun s hs => by
  obtain ⟨d, hd, hl⟩ := h.lead s hs
  exact hl.2.1 i (by omega)
theorem HB.le {lo' : Nat} (h : HB w n lo B) (hl : lo' ≤ lo) : HB w n lo' B := by
  cases B with
  | nil => trivial
  | cons r rs => obtain ⟨c, hc, h⟩ := h; exact ⟨c, by omega, h⟩
/-- what is 0 at the first pivot is spanned by the others -/
theorem HB.rest (hl : Lead w n r c) (ht : HB w n (c + 1) rs) (hs : SpB w n rs (fun i => 2 ^ w / ix r c * ix r i)) (h : SpB w n (r :: rs) v) (h0 : (2 : Int) ^ w ∣ v c) : SpB w n rs v := by
  obtain ⟨k, h1⟩ := h.cons
  obtain ⟨hc, _, e, he, hp⟩ := id hl
  have h2 : (2 : Int) ^ w ∣ v c - k * ix r c := h1.at0 hc fun s hs => by rw [ht.zero (by omega) s hs]; exact Int.dvd_zero _
  have h3 : (2 : Int) ^ w ∣ k * 2 ^ e := by rw [hp] at h2; exact dv2 1 (-1) h0 h2 (by grind)
  have h4 : (2 : Int) ^ (w - e) ∣ k := by
    have e1 : (2 : Int) ^ w = 2 ^ (w - e) * 2 ^ e := by rw [← Int.pow_add]; congr 1; omega
    rw [e1] at h3
    exact Int.dvd_of_mul_dvd_mul_right (Int.ne_of_gt (pow_pos2 e)) h3
  obtain ⟨j, rfl⟩ := h4
  have h5 := (h1.plus (hs.smul j))
  refine h5.congr fun i _ => dv0 ?_
  rw [hp, pow_div (Nat.le_of_lt he)]
  generalize (2 : Int) ^ (w - e) = q
  have : q * j * ix r i = j * (q * ix r i) := by grind
  omega
theorem HB.pdvd (hl : Lead w n r c) (ht : HB w n (c + 1) rs) (h : SpB w n (r :: rs) v) : ix r c ∣ v c := by
  obtain ⟨hc, _, e, he, hp⟩ := id hl
  refine h.dvd hc (by rw [hp]; exact pow_dvd (Nat.le_of_lt he)) fun s hs => ?_
  rcases List.mem_cons.mp hs with q | q
  · subst q; exact Int.dvd_refl _
  · rw [ht.zero (by omega) s q]; exact Int.dvd_zero _
theorem HB.small : ∀ {B : List (List Int)} {lo : Nat} {v : Fn}, HB w n lo B → SpB w n B v → (∀ s ∈ B, ∀ d, Lead w n s d → -(ix s d) < v d ∧ v d < ix s d) → ∀ i, i < n → (2 : Int) ^ w ∣ v i
  | [], _, _, _, h, _ => h.nil
  | r :: rs, _, v, hb, h, hv => by
    obtain ⟨c, hc, hl, ht, hq, hs⟩ := hb
    have h1 := HB.pdvd hl ht h
    obtain ⟨h2, h3⟩ := hv r List.mem_cons_self c hl
    have h4 : v c = 0 := by
      obtain ⟨j, e⟩ := h1
      have := hl.pos
      have : j = 0 := by
        rcases Int.lt_trichotomy j 0 with q | q | q
        · have : ix r c * j ≤ ix r c * (-1) := Int.mul_le_mul_of_nonneg_left (by omega) (by omega)
          omega
        · exact q
        · have : ix r c * 1 ≤ ix r c * j := Int.mul_le_mul_of_nonneg_left (by omega) (by omega)
          omega
      subst this; omega
    exact HB.small ht (HB.rest hl ht hs h (by rw [h4]; exact Int.dvd_zero _)) fun s hs' => hv s (List.mem_cons_of_mem _ hs')
theorem ix_mem {i : Nat} (hi : i < r.length) : ix r i ∈ r := by
  unfold ix
  rw [List.getD_eq_getElem?_getD, List.getElem?_eq_getElem hi, Option.getD_some]
  exact List.getElem_mem hi
theorem IsVec.at (h : IsVec w n r) {i : Nat} (hi : i < n) : 0 ≤ ix r i ∧ ix r i < 2 ^ w := h.2 _ (ix_mem (by rw [h.1]; exact hi))
theorem vec_ext {u v : List Int} (hu : u.length = n) (hv : v.length = n) (h : ∀ i, i < n → ix u i = ix v i) : u = v := by
  refine List.ext_getElem (by omega) fun i h1 h2 => ?_
  have := h i (by omega)
  unfold ix at this
  rw [List.getD_eq_getElem?_getD, List.getElem?_eq_getElem h1, Option.getD_some, List.getD_eq_getElem?_getD, List.getElem?_eq_getElem h2, Option.getD_some] at this
  exact this
theorem vec_eq {u v : List Int} (hu : IsVec w n u) (hv : IsVec w n v) (h : ∀ i, i < n → (2 : Int) ^ w ∣ ix u i - ix v i) : u = v := by
  refine vec_ext hu.1 hv.1 fun i hi => ?_
  obtain ⟨a, b⟩ := hu.at hi
  obtain ⟨a', b'⟩ := hv.at hi
  obtain ⟨j, e⟩ := h i hi
  have hp := pow_pos2 w
  have : j = 0 := by
    rcases Int.lt_trichotomy j 0 with q | q | q
    · have : (2 : Int) ^ w * j ≤ 2 ^ w * (-1) := Int.mul_le_mul_of_nonneg_left (by omega) (by omega)
      omega
    · exact q
    · have : (2 : Int) ^ w * 1 ≤ 2 ^ w * j := Int.mul_le_mul_of_nonneg_left (by omega) (by omega)
      omega
  subst this; omega
theorem HB.unique : ∀ {B B' : List (List Int)} {lo lo' : Nat}, HB w n lo B → HB w n lo' B' → (∀ r ∈ B, IsVec w n r) → (∀ r ∈ B', IsVec w n r) → (∀ v, SpB w n B v → SpB w n B' v) → (∀ v, SpB w n B' v → SpB w n B v) → B = B'
  | [], [], _, _, _, _, _, _, _, _ => rfl
  | [], r :: rs, _, _, _, hb, _, _, _, h => by
    obtain ⟨c, _, hl, _⟩ := hb
    have h1 := (h _ (.mem (List.mem_cons_self (a := r) (l := rs)))).nil c hl.1
    obtain ⟨_, _, k, hk, e⟩ := hl
    rw [e] at h1
    exact (not_dvd_pow hk h1).elim
  | r :: rs, [], _, _, hb, _, _, _, h, _ => by
    obtain ⟨c, _, hl, _⟩ := hb
    have h1 := (h _ (.mem (List.mem_cons_self (a := r) (l := rs)))).nil c hl.1
    obtain ⟨_, _, k, hk, e⟩ := hl
    rw [e] at h1
    exact (not_dvd_pow hk h1).elim
  | r :: rs, r' :: rs', _, _, hb, hb', hv, hv', h, h' => by
    obtain ⟨c, _, hl, ht, hq, hs⟩ := hb
    obtain ⟨c', _, hl', ht', hq', hs'⟩ := hb'
    have m := h _ (.mem (List.mem_cons_self (a := r) (l := rs)))
    have m' := h' _ (.mem (List.mem_cons_self (a := r') (l := rs')))
    have key : ∀ {r r' : List Int} {rs' : List (List Int)} {c c' : Nat}, Lead w n r c → Lead w n r' c' → HB w n (c' + 1) rs' → SpB w n (r' :: rs') (ix r) → ¬ c < c' := by
      intro r r' rs' c c' hl hl' ht' m hlt
      have h1 : (2 : Int) ^ w ∣ ix r c := m.at0 hl.1 fun s hs => by
        rcases List.mem_cons.mp hs with q | q
        · subst q; rw [hl'.2.1 c hlt]; exact Int.dvd_zero _
        · rw [ht'.zero (by omega) s q]; exact Int.dvd_zero _
      obtain ⟨_, _, k, hk, e⟩ := hl
      rw [e] at h1
      exact not_dvd_pow hk h1
    have ec : c = c' := by
      have h1 := key hl hl' ht' m
      have h2 := key hl' hl ht m'
      omega
    subst ec
    have ep : ix r c = ix r' c := by
      have d1 := HB.pdvd hl' ht' m
      have d2 := HB.pdvd hl ht m'
      exact Int.le_antisymm (Int.le_of_dvd hl'.pos d2) (Int.le_of_dvd hl.pos d1)
    have z : ∀ {rs : List (List Int)} {v : Fn}, HB w n (c + 1) rs → SpB w n rs v → (2 : Int) ^ w ∣ v c := fun ht hv => hv.at0 hl.1 fun s hs => by rw [ht.zero (by omega) s hs]; exact Int.dvd_zero _
    have up : ∀ {r : List Int} {rs : List (List Int)} {v : Fn}, SpB w n rs v → SpB w n (r :: rs) v := fun hv => hv.mono fun _ hs => List.mem_cons_of_mem _ hs
    have er : rs = rs' := HB.unique ht ht' (fun r hr => hv r (List.mem_cons_of_mem _ hr)) (fun r hr => hv' r (List.mem_cons_of_mem _ hr))
      (fun v q => HB.rest hl' ht' hs' (h v (up q)) (z ht q)) (fun v q => HB.rest hl ht hs (h' v (up q)) (z ht' q))
    subst er
    have iv := hv r List.mem_cons_self
    have iv' := hv' r' List.mem_cons_self
    have hd : SpB w n (r :: rs) (fun i => 1 * ix r i + (-1) * ix r' i) := (Sp.mem List.mem_cons_self).comb m' 1 (-1)
    have hd' := HB.rest hl ht hs hd (by show (2 : Int) ^ w ∣ 1 * ix r c + (-1) * ix r' c; rw [ep]; exact ⟨0, by omega⟩)
    have hz := HB.small ht hd' fun s hs'' d hld => by
      have a1 := hq s hs'' d hld
      have a2 := hq' s hs'' d hld
      have b1 := iv.at hld.1
      have b2 := iv'.at hld.1
      show -(ix s d) < 1 * ix r d + (-1) * ix r' d ∧ 1 * ix r d + (-1) * ix r' d < ix s d
      omega
    have e : r = r' := vec_eq iv iv' fun i hi => by exact dv1 1 (hz i hi) (by grind)
    rw [e]
theorem Bas.unique (h : Bas w n B) (h' : Bas w n B') (e : ∀ v, SpB w n B v ↔ SpB w n B' v) : B = B' := HB.unique h.2 h'.2 h.1 h'.1 (fun v => (e v).mp) fun v => (e v).mpr
end
/-! ### dot products, annihilators -/
def dot : Nat → Fn → Fn → Int
  | 0, _, _ => 0
  | n + 1, u, v => dot n u v + u n * v n
section
variable {n w : Nat} {u v : Fn}
theorem dot_congr {M : Int} {u' v' : Fn} : ∀ {n : Nat}, (∀ i, i < n → M ∣ u i - u' i) → (∀ i, i < n → M ∣ v i - v' i) → M ∣ dot n u v - dot n u' v'
  | 0, _, _ => ⟨0, by simp [dot]⟩
  | n + 1, hu, hv => by
    have h1 := dot_congr (fun i hi => hu i (by omega)) (fun i hi => hv i (by omega)) (n := n)
    have h2 := hu n (by omega)
    have h3 := hv n (by omega)
    show M ∣ (dot n u v + u n * v n) - (dot n u' v' + u' n * v' n)
    exact dv3 1 (v n) (u' n) h1 h2 h3 (by grind)
theorem dot_comm : ∀ {n : Nat} {u v : Fn}, dot n u v = dot n v u
  | 0, _, _ => rfl
  | n + 1, u, v => by show dot n u v + u n * v n = dot n v u + v n * u n; rw [dot_comm, Int.mul_comm]
theorem dot_lin (a b : Int) (x y : Fn) : ∀ n, dot n (fun i => a * x i + b * y i) v = a * dot n x v + b * dot n y v
  | 0 => by simp [dot]
  | n + 1 => by
    have := dot_lin a b x y n
    simp only [dot]
    grind
theorem dot_linR (a b : Int) (x y : Fn) (n : Nat) : dot n v (fun i => a * x i + b * y i) = a * dot n v x + b * dot n v y := by
  rw [dot_comm, dot_lin, dot_comm (u := x), dot_comm (u := y)]
def unit (j : Nat) : Fn := fun i => if i = j then 1 else 0
theorem dot_unit0 (j : Nat) : ∀ n, n ≤ j → dot n (unit j) v = 0
  | 0, _ => rfl
  | n + 1, h => by
    have := dot_unit0 j n (by omega)
    simp only [dot, this, unit]
    rw [if_neg (by omega)]
    simp
theorem dot_unit {j : Nat} : ∀ {n}, j < n → dot n (unit j) v = v j
  | 0, h => by omega
  | n + 1, h => by
    simp only [dot]
    by_cases e : n = j
    · subst e
      rw [dot_unit0 n n (Nat.le_refl _)]
      simp [unit]
    · rw [dot_unit (by omega : j < n)]
      simp [unit, e]
/-- in the annihilator -/
def Ann (w n : Nat) (S : List (List Int)) (u : Fn) : Prop := ∀ s ∈ S, (2 : Int) ^ w ∣ dot n u (ix s)
theorem Ann.sp {S : List (List Int)} (h : Ann w n S u) (hv : SpB w n S v) : (2 : Int) ^ w ∣ dot n u v := by
  induction hv with
  | zero h0 =>
    have h1 : (2 : Int) ^ w ∣ dot n u _ - dot n u (fun _ => 0) := dot_congr (fun _ _ => ⟨0, by omega⟩) fun i hi => by have := h0 i hi; simpa using this
    have e : ∀ m, dot m u (fun _ => 0) = 0 := fun m => by
      induction m with
      | zero => rfl
      | succ m ih => simp [dot, ih]
    rw [e] at h1; simpa using h1
  | @add x v s k hs h1 h2 ih =>
    have h3 : (2 : Int) ^ w ∣ dot n u x - dot n u (fun i => 1 * v i + k * ix s i) := dot_congr (fun _ _ => ⟨0, by omega⟩) fun i hi => dv1 1 (h2 i hi) (by grind)
    rw [dot_linR] at h3
    exact dv3 1 1 k h3 ih (h s hs) (by grind)
end
end WM
end
section
namespace WM
/-! ### odd numbers have inverses modulo 2 ^ w -/
theorem odd_inv (a : Int) (h : a % 2 = 1) : ∀ w : Nat, ∃ b : Int, (2 : Int) ^ w ∣ a * b - 1
  | 0 => ⟨0, 1 * (a * 0 - 1), by simp⟩
  | w + 1 => by
    obtain ⟨b, j, e⟩ := odd_inv a h w
    -- a b = 1 + 2^w j; take b + 2^w j' with a (b + 2^w j') - 1 = 2^w (j + a j'), j' = j (odd a: j + a j even)
    refine ⟨b + 2 ^ w * j, (j + a * j) / 2, ?_⟩
    have h2 : (j + a * j) % 2 = 0 := by
      have : a = 2 * (a / 2) + 1 := by omega
      rw [this]
      have : j + (2 * (a / 2) + 1) * j = 2 * (j + a / 2 * j) := by grind
      omega
    have e2 : j + a * j = 2 * ((j + a * j) / 2) := by omega
    rw [Int.pow_succ]
    generalize (2 : Int) ^ w = q at *
    generalize (j + a * j) / 2 = z at *
    grind
/-- every number is 2 ^ t times an odd one, or a multiple of 2 ^ w -/
theorem two_part (w : Nat) (x : Int) : (2 : Int) ^ w ∣ x ∨ ∃ t a, t < w ∧ x = 2 ^ t * a ∧ a % 2 = 1 := by
  induction w with
  | zero => exact .inl ⟨x, by simp⟩
  | succ w ih =>
    rcases ih with ⟨j, e⟩ | ⟨t, a, ht, e, ha⟩
    · by_cases hj : j % 2 = 1
      · exact .inr ⟨w, j, by omega, e, hj⟩
      · left
        refine ⟨j / 2, ?_⟩
        rw [Int.pow_succ, e]
        have : j = 2 * (j / 2) := by omega
        generalize j / 2 = z at *
        rw [this]; grind
    · exact .inr ⟨t, a, by omega, e, ha⟩
/-- the double annihilator, for functions: what is killed by all that kill the list is spanned by it -/
inductive SpF (M : Int) (n : Nat) (S : List Fn) : Fn → Prop
  | zero {v : Fn} : (∀ i, i < n → M ∣ v i) → SpF M n S v
  | add {u v s : Fn} {k : Int} : s ∈ S → SpF M n S v → (∀ i, i < n → M ∣ u i - (v i + k * s i)) → SpF M n S u
theorem exists_min (P : Nat → Prop) : ∀ w, P w → ∃ t, t ≤ w ∧ P t ∧ ∀ s, s < t → ¬ P s := fun w h => by
  classical
  induction w using Nat.strongRecOn with
  | _ w ih =>
    by_cases q : ∃ s, s < w ∧ P s
    · obtain ⟨s, hs, hp⟩ := q
      obtain ⟨t, ht, a, b⟩ := ih s hs hp
      exact ⟨t, by omega, a, b⟩
    · exact ⟨w, Nat.le_refl _, h, fun s hs hp => q ⟨s, hs, hp⟩⟩
theorem fredholm (w n : Nat) : ∀ (S : List Fn) (v : Fn), (∀ u, (∀ s ∈ S, (2 : Int) ^ w ∣ dot n u s) → (2 : Int) ^ w ∣ dot n u v) → SpF (2 ^ w) n S v
  | [], v, h => .zero fun i hi => by
    have := h (unit i) (fun s hs => by cases hs)
    rwa [dot_unit hi] at this
  | g :: S, v, h => by
    have hP : ∃ u : Fn, (∀ s ∈ S, (2 : Int) ^ w ∣ dot n u s) ∧ (2 : Int) ^ w ∣ dot n u g - 2 ^ w := ⟨fun _ => 0, fun s _ => by
      have e : ∀ m (x : Fn), dot m (fun _ => 0) x = 0 := fun m x => by
        induction m with
        | zero => rfl
        | succ m ih => simp [dot, ih]
      rw [e]; exact Int.dvd_zero _, by
      have e : ∀ m (x : Fn), dot m (fun _ => 0) x = 0 := fun m x => by
        induction m with
        | zero => rfl
        | succ m ih => simp [dot, ih]
      rw [e]; exact ⟨-1, by omega⟩⟩
    obtain ⟨t, ht, ⟨u0, hu0, hg0⟩, hmin⟩ := exists_min (fun t => ∃ u : Fn, (∀ s ∈ S, (2 : Int) ^ w ∣ dot n u s) ∧ (2 : Int) ^ w ∣ dot n u g - 2 ^ t) w hP
    -- 2 ^ (w - t) u0 kills g too
    have e1 : (2 : Int) ^ w = 2 ^ (w - t) * 2 ^ t := by rw [← Int.pow_add]; congr 1; omega
    have k1 : (2 : Int) ^ w ∣ 2 ^ (w - t) * dot n u0 v := by
      have q := h (fun i => 2 ^ (w - t) * u0 i + 0 * u0 i) fun s hs => by
        rw [dot_lin]
        rcases List.mem_cons.mp hs with e | e
        · subst e
          refine dv2 (2 ^ (w - t)) 1 hg0 (Int.dvd_refl _) ?_
          rw [e1]; grind
        · exact dv1 (2 ^ (w - t)) (hu0 s e) (by grind)
      rw [dot_lin] at q
      exact dv1 1 q (by grind)
    obtain ⟨z, hz⟩ : (2 : Int) ^ t ∣ dot n u0 v := by
      rw [e1] at k1
      exact Int.dvd_of_mul_dvd_mul_left (Int.ne_of_gt (pow_pos2 _)) k1
    -- every killer of S has its value at g a multiple of 2 ^ t
    have k2 : ∀ u : Fn, (∀ s ∈ S, (2 : Int) ^ w ∣ dot n u s) → ∃ k, (2 : Int) ^ w ∣ dot n u g - k * 2 ^ t := fun u hu => by
      rcases two_part w (dot n u g) with hd | ⟨s, a, hs, e, ha⟩
      · exact ⟨0, dv1 1 hd (by grind)⟩
      · by_cases l : s < t
        · obtain ⟨b, hb⟩ := odd_inv a ha w
          refine (hmin s l ⟨fun i => b * u i + 0 * u i, fun x hx => ?_, ?_⟩).elim
          · rw [dot_lin]; exact dv1 b (hu x hx) (by grind)
          · rw [dot_lin, e]; exact dv1 (2 ^ s) hb (by grind)
        · refine ⟨2 ^ (s - t) * a, dv0 ?_⟩
          rw [e]
          have : (2 : Int) ^ s = 2 ^ (s - t) * 2 ^ t := by rw [← Int.pow_add]; congr 1; omega
          rw [this]; grind
    have ih := fredholm w n S (fun i => 1 * v i + (-z) * g i) fun u hu => by
      obtain ⟨k, hk⟩ := k2 u hu
      have q := h (fun i => 1 * u i + (-k) * u0 i) fun s hs => by
        rw [dot_lin]
        rcases List.mem_cons.mp hs with e | e
        · subst e; exact dv2 1 (-k) hk hg0 (by grind)
        · exact dv2 1 (-k) (hu s e) (hu0 s e) (by grind)
      rw [dot_lin] at q
      rw [dot_linR]
      refine dv2 1 (-z) q hk ?_
      rw [hz]; grind
    -- back
    have up : ∀ {x : Fn}, SpF (2 ^ w) n S x → SpF (2 ^ w) n (g :: S) x := fun hx => by
      induction hx with
      | zero h => exact .zero h
      | @add a b s k hs _ h2 ih => exact .add (k := k) (List.mem_cons_of_mem _ hs) ih h2
    exact .add (k := z) List.mem_cons_self (up ih) fun i _ => dv0 (by grind)
theorem spF_sp {M : Int} {n : Nat} {S : List (List Int)} {v : Fn} (h : SpF M n (S.map ix) v) : Sp M n S v := by
  induction h with
  | zero h => exact .zero h
  | @add a b s k hs _ h2 ih =>
    obtain ⟨r, hr, rfl⟩ := List.mem_map.mp hs
    exact .add (k := k) hr ih h2
/-- the double annihilator -/
theorem double_ann {w n : Nat} {S : List (List Int)} {v : Fn} (h : ∀ u, Ann w n S u → (2 : Int) ^ w ∣ dot n u v) : SpB w n S v :=
  spF_sp (fredholm w n (S.map ix) v fun u hu => h u fun s hs => hu _ (List.mem_map.mpr ⟨s, hs, rfl⟩))
theorem sp_iff_ann {w n : Nat} {S : List (List Int)} {v : Fn} : SpB w n S v ↔ ∀ u, Ann w n S u → (2 : Int) ^ w ∣ dot n u v :=
  ⟨fun h u hu => hu.sp h, double_ann⟩
end WM
end
section
/-! A layer of data over the hand layer: what expressions, tests, arguments and blocks of pure defs evaluate to, by PyData. -/
namespace DL
open PySem PySem.Spec PyProof.Rows L2
/-! ### data -/
theorem dp_mono {K : PySem.W.Frag} {H H' : Hp} (e : Same H H') : ∀ {d : PyData} {v : V}, Dp K H v d → Dp K H' v d := by
  have sl : ∀ {a : Addr} {xs : List V}, SqL K H a xs → SqL K H' a xs := fun h => e.seq h
  have st : ∀ {a : Addr} {xs : List V}, SqT K H a xs → SqT K H' a xs := fun h => by
    rcases h with (h | ⟨o, h⟩) | h
    · exact .inl (.inl (e _ _ h))
    · exact .inl (.inr ⟨o, e _ _ h⟩)
    · exact .inr h
  intro d v h
  exact Dp.rec (motive_1 := fun v d _ => Dp K H' v d) (motive_2 := fun vs ds _ => DpAll K H' vs ds) .non .bl .int .str (fun h _ ih => .lst (sl h) ih) (fun h _ ih => .tup (st h) ih) .nil (fun _ _ h1 h2 => .cons h1 h2) h
theorem dpA_mono {K : PySem.W.Frag} {H H' : Hp} (e : Same H H') : ∀ {ds : List PyData} {vs : List V}, DpAll K H vs ds → DpAll K H' vs ds
  | _, _, .nil => .nil
  | _, _, .cons h1 h2 => .cons (dp_mono e h1) (dpA_mono e h2)
section
variable {K : PySem.W.Frag} {H H' : Hp} {v : V} {vs : List V} {d : PyData} {ds es : List PyData}
theorem dp_int {i : Int} (h : Dp K H v (.int i)) : v = .int i := by cases h; rfl
theorem dp_bl {b : Bool} (h : Dp K H v (.bool b)) : v = .bl b := by cases h; rfl
theorem dp_non (h : Dp K H v .none) : v = .non := by cases h; rfl
theorem dp_str {x : Str} (h : Dp K H v (.str x)) : v = .str x := by cases h; rfl
theorem dp_tup (h : Dp K H v (.tuple ds)) : ∃ a xs, v = .ref a ∧ SqT K H a xs ∧ DpAll K H xs ds := by cases h with | tup h1 h2 => exact ⟨_, _, rfl, h1, h2⟩
theorem dp_lst (h : Dp K H v (.list ds)) : ∃ a xs, v = .ref a ∧ SqL K H a xs ∧ DpAll K H xs ds := by cases h with | lst h1 h2 => exact ⟨_, _, rfl, h1, h2⟩
theorem dpA_len : ∀ {vs : List V} {ds : List PyData}, DpAll K H vs ds → vs.length = ds.length
  | _, _, .nil => rfl
  | _, _, .cons _ h => by simp [dpA_len h]
theorem dpA_get : ∀ {vs : List V} {ds : List PyData}, DpAll K H vs ds → ∀ {i : Nat} {d : PyData}, ds[i]? = some d → ∃ v, vs[i]? = some v ∧ Dp K H v d
  | _, _, .nil, i, d, h => by simp at h
  | _, _, .cons h1 _, 0, d, h => by simp at h; subst h; exact ⟨_, rfl, h1⟩
  | _, _, .cons _ h2, i + 1, d, h => by simpa using dpA_get h2 (by simpa using h)
theorem dpA_getV : ∀ {vs : List V} {ds : List PyData}, DpAll K H vs ds → ∀ {i : Nat} {v : V}, vs[i]? = some v → ∃ d, ds[i]? = some d ∧ Dp K H v d
  | _, _, .nil, i, d, h => by simp at h
  | _, _, .cons h1 _, 0, d, h => by simp at h; subst h; exact ⟨_, rfl, h1⟩
  | _, _, .cons _ h2, i + 1, d, h => by simpa using dpA_getV h2 (by simpa using h)
theorem dpA_app : ∀ {vs us : List V} {ds es : List PyData}, DpAll K H vs ds → DpAll K H us es → DpAll K H (vs ++ us) (ds ++ es)
  | _, _, _, _, .nil, h' => h'
  | _, _, _, _, .cons h1 h2, h' => .cons h1 (dpA_app h2 h')
theorem dpA_take : ∀ {vs : List V} {ds : List PyData}, DpAll K H vs ds → ∀ n, DpAll K H (vs.take n) (ds.take n)
  | _, _, .nil, n => by simp; exact .nil
  | _, _, .cons _ _, 0 => .nil
  | _, _, .cons h1 h2, n + 1 => .cons h1 (dpA_take h2 n)
theorem dpA_drop : ∀ {vs : List V} {ds : List PyData}, DpAll K H vs ds → ∀ n, DpAll K H (vs.drop n) (ds.drop n)
  | _, _, .nil, n => by simp; exact .nil
  | _, _, .cons h1 h2, 0 => .cons h1 h2
  | _, _, .cons _ h2, n + 1 => dpA_drop h2 n
theorem dpA_ints : ∀ {ns : List Int} {vs : List V}, DpAll K H vs (ns.map .int) → vs = ns.map V.int
  | [], _, h => by cases h; rfl
  | n :: ns, _, h => by cases h with | cons h1 h2 => rw [dp_int h1, dpA_ints h2]; rfl
theorem dpA_bls : ∀ {ns : List Bool} {vs : List V}, DpAll K H vs (ns.map .bool) → vs = ns.map V.bl
  | [], _, h => by cases h; rfl
  | n :: ns, _, h => by cases h with | cons h1 h2 => rw [dp_bl h1, dpA_bls h2]; rfl
theorem ints_dpA (ns : List Int) : DpAll K H (ns.map V.int) (ns.map .int) := by
  induction ns with
  | nil => exact .nil
  | cons n ns ih => exact .cons (.int n) ih
end
/-! ### environments of data -/
/-- what a slot holds: data, or this very value (an object's address), or a value of which p holds for good -/
inductive Slot where
  | dat (d : PyData)
  | val (v : V)
  | pr (p : Hp → V → Prop)
instance : Coe PyData Slot := ⟨.dat⟩
def SlotOk (K : PySem.W.Frag) (H : Hp) (v : V) : Slot → Prop
  | .dat d => Dp K H v d
  | .val u => v = u
  | .pr p => ∀ H', Same H H' → p H' v
theorem SlotOk.mono {K : PySem.W.Frag} {H H' : Hp} {v : V} {x : Slot} (h : SlotOk K H v x) (e : Same H H') : SlotOk K H' v x := by
  cases x with
  | dat d => exact dp_mono e h
  | val u => exact h
  | pr p => exact fun H2 e2 => h H2 (e.trans e2)
abbrev Rho := List (Option Slot)
/-- slot by slot; where ρ has none, anything may stand. F: what else is known of the heap -/
def EnvOk (K : PySem.W.Frag) (F H : Hp) (σ : L2.St) (ρ : Rho) : Prop := ρ.length = σ.length ∧ (∀ (i : Nat) (d : Slot), ρ[i]? = some (some d) → ∃ v, σ[i]? = some (some v) ∧ SlotOk K H v d) ∧ Same F H
section
variable {K : PySem.W.Frag} {F H H' : Hp} {σ : L2.St} {ρ : Rho} {i : Nat} {v : V} {d : PyData} {x : Slot}
theorem EnvOk.mono (h : EnvOk K F H σ ρ) (e : Same H H') : EnvOk K F H' σ ρ := ⟨h.1, fun i d hd => by
  obtain ⟨v, h1, h2⟩ := h.2.1 i d hd
  exact ⟨v, h1, h2.mono e⟩, h.2.2.trans e⟩
theorem EnvOk.at (h : EnvOk K F H σ ρ) (hd : ρ[i]? = some (some (.dat d))) : ∃ v, σ[i]? = some (some v) ∧ Dp K H v d := h.2.1 i _ hd
theorem EnvOk.atV (h : EnvOk K F H σ ρ) (hd : ρ[i]? = some (some (.val v))) : σ[i]? = some (some v) := by
  obtain ⟨u, h1, h2⟩ := h.2.1 i _ hd
  rw [h1, show u = v from h2]
theorem EnvOk.setS (h : EnvOk K F H σ ρ) (hv : SlotOk K H v x) : EnvOk K F H (σ.set i (some v)) (ρ.set i (some x)) := ⟨by rw [List.length_set, List.length_set]; exact h.1, fun j e hj => by
  have hl := h.1
  by_cases q : i = j
  · subst q
    have hi : i < ρ.length := by
      have := (List.getElem?_eq_some_iff.mp hj).1
      simpa using this
    rw [List.getElem?_set_self hi] at hj
    have e1 : x = e := by simpa using hj
    subst e1
    exact ⟨v, by rw [List.getElem?_set_self (by omega)], hv⟩
  · rw [List.getElem?_set_ne q] at hj
    obtain ⟨u, h1, h2⟩ := h.2.1 j e hj
    exact ⟨u, by rw [List.getElem?_set_ne q]; exact h1, h2⟩, h.2.2⟩
theorem EnvOk.set (h : EnvOk K F H σ ρ) (hv : Dp K H v d) : EnvOk K F H (σ.set i (some v)) (ρ.set i (some (.dat d))) := h.setS hv
/-- slot i holds something else than data -/
theorem EnvOk.setN (h : EnvOk K F H σ ρ) {o : Option V} : EnvOk K F H (σ.set i o) (ρ.set i none) := ⟨by rw [List.length_set, List.length_set]; exact h.1, fun j e hj => by
  by_cases q : i = j
  · subst q
    have hi : i < ρ.length := by
      have := (List.getElem?_eq_some_iff.mp hj).1
      simpa using this
    rw [List.getElem?_set_self hi] at hj
    simp at hj
  · rw [List.getElem?_set_ne q] at hj
    obtain ⟨u, h1, h2⟩ := h.2.1 j e hj
    exact ⟨u, by rw [List.getElem?_set_ne q]; exact h1, h2⟩, h.2.2⟩
def wipeR (ρ : Rho) : List Nat → Rho
  | [] => ρ
  | v :: vs => (wipeR ρ vs).set v none
theorem wipeR_len (ρ : Rho) : ∀ vs : List Nat, (wipeR ρ vs).length = ρ.length
  | [] => rfl
  | v :: vs => by unfold wipeR; rw [List.length_set, wipeR_len ρ vs]
theorem EnvOk.wipe (h : EnvOk K F H σ ρ) : ∀ vs : List Nat, EnvOk K F H (L2.wipe σ vs) (wipeR ρ vs)
  | [] => h
  | w :: vs => (EnvOk.wipe h vs).setN
end
/-! ### weakest preconditions, by the text -/
def wE (X : Cx) (e : Expr) : TE := fun σ H Q => ∀ pins s, Inv X pins σ H s → wpAny (model X.prog X.w) X.A (eval e X.env) (EP X pins σ Q) X.xe s
def wT (X : Cx) (e : Expr) : TT := fun σ H Q => ∀ pins s, Inv X pins σ H s → wpAny (model X.prog X.w) X.A (isTrue e X.env (eval e X.env)) (TP X pins σ Q) X.xe s
def wA (X : Cx) (es : List Expr) : TA := fun σ H Q => ∀ pos pins s, Inv X pins σ H s → wpAny (model X.prog X.w) X.A (spliced (backTo pos (starEach es X.env))) (AP X pins σ Q) X.xe s
def wS (X : Cx) (st : Stmt) : TS := fun D σ H => ∀ pins s, Inv X pins σ H s → wpAny (model X.prog X.w) X.A (exec st X.env) (SP X pins D) X.xe s
def wB (X : Cx) (st : List Stmt) : TS := fun D σ H => ∀ pins s, Inv X pins σ H s → wpAny (model X.prog X.w) X.A (execs st X.env) (SP X pins D) X.xe s
def wI (X : Cx) (tg iter : Expr) : TI := fun σ H R => ∀ pins s, Inv X pins σ H s →
    wpAny (model X.prog X.w) X.A (eval iter X.env) (fun v s1 => wpAny (model X.prog X.w) X.A (pyIter v) (PIE X pins σ tg R) X.xe s1) X.xe s
section
variable {X : Cx} {e : Expr} {es : List Expr} {st : Stmt} {sts : List Stmt} {tg : Expr} {σ : L2.St} {H : Hp}
theorem pe_w : PE X e (wE X e) := ⟨fun pins s σ H Q I h => h pins s I⟩
theorem pt_w : PT X e (wT X e) := ⟨fun pins s σ H Q I h => h pins s I⟩
theorem pa_w : PA X es (wA X es) := ⟨fun pos pins s σ H Q I h => h pos pins s I⟩
theorem ps_w : PS X st (wS X st) := ⟨fun pins s σ H D I h => h pins s I⟩
theorem pb_w : PSs X sts (wB X sts) := ⟨fun pins s σ H D I h => h pins s I⟩
theorem pi_w : PI X tg e (wI X tg e) := ⟨fun pins s σ H R I h => h pins s I⟩
theorem ofE {t : TE} {Q : VK} (h : PE X e t) (q : t σ H Q) : wE X e σ H Q := fun pins s I => h.run pins s σ H Q I q
theorem ofT {t : TT} {Q : Bool → Hp → Prop} (h : PT X e t) (q : t σ H Q) : wT X e σ H Q := fun pins s I => h.run pins s σ H Q I q
theorem ofA {t : TA} {Q : List V → Hp → Prop} (h : PA X es t) (q : t σ H Q) : wA X es σ H Q := fun pos pins s I => h.run pos pins s σ H Q I q
theorem ofS {t : TS} {D : Ends} (h : PS X st t) (q : t D σ H) : wS X st D σ H := fun pins s I => h.run pins s σ H D I q
theorem ofB {t : TS} {D : Ends} (h : PSs X sts t) (q : t D σ H) : wB X sts D σ H := fun pins s I => h.run pins s σ H D I q
theorem ofI {t : TI} {R : It → Hp → Prop} (h : PI X tg e t) (q : t σ H R) : wI X tg e σ H R := fun pins s I => h.run pins s σ H R I q
theorem wE.mono {Q Q' : VK} (h : wE X e σ H Q) (k : ∀ v H', Q v H' → Q' v H') : wE X e σ H Q' := fun pins s I => thn (h pins s I) fun _ _ ⟨v, H', I', r, q⟩ => ⟨v, H', I', r, k v H' q⟩
theorem wT.mono {Q Q' : Bool → Hp → Prop} (h : wT X e σ H Q) (k : ∀ v H', Q v H' → Q' v H') : wT X e σ H Q' := fun pins s I => thn (h pins s I) fun _ _ ⟨H', I', q⟩ => ⟨H', I', k _ H' q⟩
theorem wA.mono {Q Q' : List V → Hp → Prop} (h : wA X es σ H Q) (k : ∀ v H', Q v H' → Q' v H') : wA X es σ H Q' := fun pos pins s I => thn (h pos pins s I) fun _ _ ⟨v, H', I', r, q⟩ => ⟨v, H', I', r, k v H' q⟩
end
/-! ### what evaluates to which data, keeping all that is tracked -/
/-- .. some data with P -/
def ER (X : Cx) (F : Hp) (ρ : Rho) (e : Expr) (P : PyData → Prop) : Prop := ∀ σ H Q, EnvOk X.K F H σ ρ → (∀ d v H', P d → Same H H' → Dp X.K H' v d → Q v H') → wE X e σ H Q
def ED (X : Cx) (F : Hp) (ρ : Rho) (e : Expr) (d : PyData) : Prop := ∀ σ H Q, EnvOk X.K F H σ ρ → (∀ v H', Same H H' → Dp X.K H' v d → Q v H') → wE X e σ H Q
def TD (X : Cx) (F : Hp) (ρ : Rho) (e : Expr) (b : Bool) : Prop := ∀ σ H Q, EnvOk X.K F H σ ρ → (∀ H', Same H H' → Q b H') → wT X e σ H Q
def EA (X : Cx) (F : Hp) (ρ : Rho) (es : List Expr) (ds : List PyData) : Prop := ∀ σ H Q, EnvOk X.K F H σ ρ → (∀ vs H', Same H H' → DpAll X.K H' vs ds → Q vs H') → wA X es σ H Q
theorem Same.upd {H H' : Hp} {p : Addr} {o : HO} (e : Same H H') (h : H' p = none) : Same H (upd H' p o) := fun a u ha => by
  rw [upd_ne (ne_of_none (e a u ha) h)]; exact e a u ha
theorem Same.new {H : Hp} {p : Addr} {o : HO} (h : H p = none) : Same H (L2.upd H p o) := Same.upd (Same.refl H) h
section
variable {X : Cx} {F : Hp} {ρ : Rho} {a b c e : Expr} {es : List Expr} {pos p2 : Pos} {d d1 d2 d3 : PyData} {ds : List PyData}
theorem ed_eq (h : ED X F ρ e d) (q : d = d1) : ED X F ρ e d1 := q ▸ h
theorem td_eq {k k' : Bool} (h : TD X F ρ e k) (q : k = k') : TD X F ρ e k' := q ▸ h
theorem ed_var (i : Nat) {x : Str} (hd : ρ[i]? = some (some (.dat d))) (hN : X.N[i]? = some x := by rfl) (hv : Vis X.env.scope x := by first | exact Or.inl rfl | exact Or.inr (Or.inl rfl) | exact Or.inr (Or.inr rfl)) (h1 : (x == ("__debug__" : Str)) = false := by decide) (h2 : (x == ("__classdict__" : Str)) = false := by decide) :
    ED X F ρ (.Name x pos) d := fun σ H Q E k => by
  obtain ⟨v, hs, hv'⟩ := E.at hd
  exact ofE (pe_var hN hv h1 h2) ⟨v, hs, k v H (Same.refl H) hv'⟩
theorem ed_int {i : Int} {j : Nat} : ED X F ρ (.Constant (.int i) j pos) (.int i) := fun σ H Q E k => ofE pe_int (k _ _ (Same.refl H) (.int i))
theorem ed_bl {i : Bool} {j : Nat} : ED X F ρ (.Constant (.bool i) j pos) (.bool i) := fun σ H Q E k => ofE pe_bl (k _ _ (Same.refl H) (.bl i))
theorem ed_non {j : Nat} : ED X F ρ (.Constant .none j pos) .none := fun σ H Q E k => ofE pe_non (k _ _ (Same.refl H) .non)
theorem ed_str {x : Str} {j : Nat} : ED X F ρ (.Constant (.str x) j pos) (.str x) := fun σ H Q E k => ofE pe_str (k _ _ (Same.refl H) (.str x))
/-- a written int of the module -/
theorem ed_globI {x : Str} {i : Int} (hm : ∃ t, X.mg x = some (.int i t)) (hg : Gl X x := by rfl) (hd : (x == ("__debug__" : Str)) = false := by decide) : ED X F ρ (.Name x pos) (.int i) := fun σ H Q E k => by
  obtain ⟨t, hm⟩ := hm
  exact ofE (pe_glob (v := .int i) hg hm ⟨t, rfl⟩ hd) (k _ _ (Same.refl H) (.int i))
theorem decI (i j : Int) : decide (V.int i = V.int j) = decide (i = j) := by simp
theorem decB (i j : Bool) : decide (V.bl i = V.bl j) = decide (i = j) := by simp
/-- two operands, any rule -/
theorem ed_two {r : R2} {f : Expr} (hp : PE X f (tOp r (wE X a) (wE X b))) (ha : ED X F ρ a d1) (hb : ED X F ρ b d2)
    (hr : ∀ x y H (Q : VK), Dp X.K H x d1 → Dp X.K H y d2 → (∀ v H', Same H H' → Dp X.K H' v d → Q v H') → r x y H Q) : ED X F ρ f d := fun σ H Q E k => by
  refine ofE hp ?_
  refine ha σ H _ E fun x H1 e1 dx => ?_
  refine hb σ H1 _ (E.mono e1) fun y H2 e2 dy => ?_
  exact hr x y H2 Q (dp_mono e2 dx) dy fun v H' e3 dv => k v H' ((e1.trans e2).trans e3) dv
theorem ed_add {i j : Int} (ha : ED X F ρ a (.int i)) (hb : ED X F ρ b (.int j)) : ED X F ρ (.BinOp a .Add b pos) (.int (i + j)) :=
  ed_two (pe_op op_add pe_w pe_w) ha hb fun x y H Q hx hy k => ⟨i, j, dp_int hx, dp_int hy, k _ _ (Same.refl H) (.int _)⟩
theorem ed_sub {i j : Int} (ha : ED X F ρ a (.int i)) (hb : ED X F ρ b (.int j)) : ED X F ρ (.BinOp a .Sub b pos) (.int (i - j)) :=
  ed_two (pe_op op_sub pe_w pe_w) ha hb fun x y H Q hx hy k => ⟨i, j, dp_int hx, dp_int hy, k _ _ (Same.refl H) (.int _)⟩
/-- the product of two ints, of sizes that the model bounds -/
theorem ed_mul {i j : Int} (ha : ED X F ρ a (.int i)) (hb : ED X F ρ b (.int j)) (hc : CMulX i j) : ED X F ρ (.BinOp a .Mult b pos) (.int (i * j)) :=
  ed_two (pe_op op_mulX pe_w pe_w) ha hb fun x y H Q hx hy k => ⟨i, j, dp_int hx, dp_int hy, hc, k _ _ (Same.refl H) (.int _)⟩
theorem ed_mod {i j : Int} (ha : ED X F ρ a (.int i)) (hb : ED X F ρ b (.int j)) (hc : 0 < j) : ED X F ρ (.BinOp a .Mod b pos) (.int (i % j)) :=
  ed_two (pe_op op_mod pe_w pe_w) ha hb fun x y H Q hx hy k => ⟨i, j, dp_int hx, dp_int hy, hc, k _ _ (Same.refl H) (.int _)⟩
theorem ed_div {i j : Int} (ha : ED X F ρ a (.int i)) (hb : ED X F ρ b (.int j)) (hc : CDivW i j) : ED X F ρ (.BinOp a .FloorDiv b pos) (.int (i / j)) :=
  ed_two (pe_op op_fdivW pe_w pe_w) ha hb fun x y H Q hx hy k => ⟨i, j, dp_int hx, dp_int hy, hc, k _ _ (Same.refl H) (.int _)⟩
theorem ed_shl1 {n : Nat} {j : Nat} {p3 : Pos} (hb : ED X F ρ b (.int (n : Int))) (hc : n ≤ 100000) : ED X F ρ (.BinOp (.Constant (.int 1) j p3) .LShift b pos) (.int (2 ^ n)) :=
  ed_two (pe_op op_shl pe_w pe_w) ed_int hb fun x y H Q hx hy k => ⟨1, n, dp_int hx, dp_int hy, ⟨by omega, by omega, by decide⟩, by
    have e : (1 : Int) * 2 ^ ((n : Int)).toNat = 2 ^ n := by simp
    show Q (.int (1 * 2 ^ ((n : Int)).toNat)) H
    rw [e]; exact k _ _ (Same.refl H) (.int _)⟩
theorem ed_shr {i : Int} {n : Nat} (ha : ED X F ρ a (.int i)) (hb : ED X F ρ b (.int (n : Int))) : ED X F ρ (.BinOp a .RShift b pos) (.int (i / 2 ^ n)) :=
  ed_two (pe_op op_shr pe_w pe_w) ha hb fun x y H Q hx hy k => ⟨i, n, dp_int hx, dp_int hy, by omega, by
    have e : ((n : Int)).toNat = n := by simp
    show Q (.int (i / 2 ^ ((n : Int)).toNat)) H
    rw [e]; exact k _ _ (Same.refl H) (.int _)⟩
theorem ed_pow {i : Int} {n : Nat} (ha : ED X F ρ a (.int i)) (hb : ED X F ρ b (.int (n : Int))) (hn : n ≤ 1000000) (hi : i.natAbs < 2 ^ 64) : ED X F ρ (.BinOp a .Pow b pos) (.int (i ^ n)) :=
  ed_two (pe_op op_pow pe_w pe_w) ha hb fun x y H Q hx hy k => ⟨i, n, dp_int hx, dp_int hy, ⟨by omega, by omega, hi⟩, by
    have e : ((n : Int)).toNat = n := by simp
    show Q (.int (i ^ ((n : Int)).toNat)) H
    rw [e]; exact k _ _ (Same.refl H) (.int _)⟩
theorem ed_and {i j : Int} (ha : ED X F ρ a (.int i)) (hb : ED X F ρ b (.int j)) : ED X F ρ (.BinOp a .BitAnd b pos) (.int (Builtin.bitAnd i j)) :=
  ed_two (pe_op op_and pe_w pe_w) ha hb fun x y H Q hx hy k => ⟨i, j, dp_int hx, dp_int hy, k _ _ (Same.refl H) (.int _)⟩
theorem ed_neg {i : Int} (ha : ED X F ρ a (.int i)) : ED X F ρ (.UnaryOp .USub a pos) (.int (-i)) := fun σ H Q E k => by
  refine ofE (pe_un un_neg pe_w) ?_
  exact ha σ H _ E fun x H1 e1 dx => ⟨i, dp_int dx, k _ _ e1 (.int _)⟩
theorem ed_lt {i j : Int} (ha : ED X F ρ a (.int i)) (hb : ED X F ρ b (.int j)) : ED X F ρ (.Compare a [.Lt] [b] pos) (.bool (decide (i < j))) :=
  ed_two (pe_cmpR op_lt pe_w pe_w (nomark _)) ha hb fun x y H Q hx hy k => ⟨i, j, dp_int hx, dp_int hy, k _ _ (Same.refl H) (.bl _)⟩
theorem ed_le {i j : Int} (ha : ED X F ρ a (.int i)) (hb : ED X F ρ b (.int j)) : ED X F ρ (.Compare a [.LtE] [b] pos) (.bool (decide (i ≤ j))) :=
  ed_two (pe_cmpR op_le pe_w pe_w (nomark _)) ha hb fun x y H Q hx hy k => ⟨i, j, dp_int hx, dp_int hy, k _ _ (Same.refl H) (.bl _)⟩
theorem ed_gt {i j : Int} (ha : ED X F ρ a (.int i)) (hb : ED X F ρ b (.int j)) : ED X F ρ (.Compare a [.Gt] [b] pos) (.bool (decide (j < i))) :=
  ed_two (pe_cmpR op_gt pe_w pe_w (nomark _)) ha hb fun x y H Q hx hy k => ⟨i, j, dp_int hx, dp_int hy, k _ _ (Same.refl H) (.bl _)⟩
theorem ed_ge {i j : Int} (ha : ED X F ρ a (.int i)) (hb : ED X F ρ b (.int j)) : ED X F ρ (.Compare a [.GtE] [b] pos) (.bool (decide (j ≤ i))) :=
  ed_two (pe_cmpR op_ge pe_w pe_w (nomark _)) ha hb fun x y H Q hx hy k => ⟨i, j, dp_int hx, dp_int hy, k _ _ (Same.refl H) (.bl _)⟩
theorem ed_eqI {i j : Int} (ha : ED X F ρ a (.int i)) (hb : ED X F ρ b (.int j)) : ED X F ρ (.Compare a [.Eq] [b] pos) (.bool (decide (i = j))) :=
  ed_two (pe_cmpR op_eq pe_w pe_w (nomark _)) ha hb fun x y H Q hx hy k => by
    rw [dp_int hx, dp_int hy]
    exact ⟨rfl, k _ _ (Same.refl H) (by rw [decI]; exact .bl _)⟩
theorem ed_neI {i j : Int} (ha : ED X F ρ a (.int i)) (hb : ED X F ρ b (.int j)) : ED X F ρ (.Compare a [.NotEq] [b] pos) (.bool (!decide (i = j))) :=
  ed_two (pe_cmpR op_ne pe_w pe_w (nomark _)) ha hb fun x y H Q hx hy k => by
    rw [dp_int hx, dp_int hy]
    exact ⟨rfl, k _ _ (Same.refl H) (by rw [decI]; exact .bl _)⟩
theorem ed_eqB {i j : Bool} (ha : ED X F ρ a (.bool i)) (hb : ED X F ρ b (.bool j)) : ED X F ρ (.Compare a [.Eq] [b] pos) (.bool (decide (i = j))) :=
  ed_two (pe_cmpR op_eq pe_w pe_w (nomark _)) ha hb fun x y H Q hx hy k => by
    rw [dp_bl hx, dp_bl hy]
    exact ⟨rfl, k _ _ (Same.refl H) (by rw [decB]; exact .bl _)⟩
theorem ed_neB {i j : Bool} (ha : ED X F ρ a (.bool i)) (hb : ED X F ρ b (.bool j)) : ED X F ρ (.Compare a [.NotEq] [b] pos) (.bool (!decide (i = j))) :=
  ed_two (pe_cmpR op_ne pe_w pe_w (nomark _)) ha hb fun x y H Q hx hy k => by
    rw [dp_bl hx, dp_bl hy]
    exact ⟨rfl, k _ _ (Same.refl H) (by rw [decB]; exact .bl _)⟩
/-- == of data -/
theorem ed_eqD (hu : X.A.units + 64 < cLine) (ha : ED X F ρ a d1) (hb : ED X F ρ b d2) (h1 : SeqAt.shaped d1 = true) (h2 : SeqAt.shaped d2 = true) : ED X F ρ (.Compare a [.Eq] [b] pos) (.bool (PyData.eqv d1 d2)) :=
  ed_two (pe_cmpR (op_eqD hu) pe_w pe_w (nomark _)) ha hb fun x y H Q hx hy k => ⟨d1, d2, hx, hy, h1, h2, k _ _ (Same.refl H) (.bl _)⟩
theorem ed_neD (hu : X.A.units + 64 < cLine) (ha : ED X F ρ a d1) (hb : ED X F ρ b d2) (h1 : SeqAt.shaped d1 = true) (h2 : SeqAt.shaped d2 = true) : ED X F ρ (.Compare a [.NotEq] [b] pos) (.bool (!PyData.eqv d1 d2)) :=
  ed_two (pe_cmpR (op_neD hu) pe_w pe_w (nomark _)) ha hb fun x y H Q hx hy k => ⟨d1, d2, hx, hy, h1, h2, k _ _ (Same.refl H) (.bl _)⟩
def isNone : PyData → Bool
  | .none => true
  | _ => false
theorem dp_isnon {K : PySem.W.Frag} {H : Hp} {v : V} (h : Dp K H v d) : decide (v = .non) = isNone d := by cases h <;> simp [isNone]
theorem ed_isN {j : Nat} {p3 : Pos} (ha : ED X F ρ a d) : ED X F ρ (.Compare a [.Is] [.Constant .none j p3] pos) (.bool (isNone d)) := fun σ H Q E k => by
  refine ofE (pe_cmp (pc_isN pe_w) rfl) ?_
  refine ha σ H _ E fun x H1 e1 dx => k _ _ e1 ?_
  rw [dp_isnon dx]; exact .bl _
theorem ed_notN {j : Nat} {p3 : Pos} (ha : ED X F ρ a d) : ED X F ρ (.Compare a [.IsNot] [.Constant .none j p3] pos) (.bool (!isNone d)) := fun σ H Q E k => by
  refine ofE (pe_cmp (pc_notN pe_w) rfl) ?_
  refine ha σ H _ E fun x H1 e1 dx => k _ _ e1 ?_
  rw [dp_isnon dx]; exact .bl _
/-- low <= value <= high -/
theorem ed_lele {i j l : Int} (ha : ED X F ρ a (.int i)) (hb : ED X F ρ b (.int j)) (hc : ED X F ρ c (.int l)) (hm : lastMarks [.LtE, .LtE] [b, c] = false := by rfl) : ED X F ρ (.Compare a [.LtE, .LtE] [b, c] pos) (.bool (decide (i ≤ j) && decide (j ≤ l))) := fun σ H Q E k => by
  refine ofE (pe_chain op_le op_le pe_w pe_w pe_w (hm := hm)) ?_
  refine ha σ H _ E fun x H1 e1 dx => ?_
  refine hb σ H1 _ (E.mono e1) fun y H2 e2 dy => ?_
  have hx := dp_int dx
  have hy := dp_int dy
  subst hx; subst hy
  refine ⟨i, j, rfl, rfl, decide (i ≤ j), rfl, ?_⟩
  cases q : decide (i ≤ j) with
  | false => rw [if_neg Bool.false_ne_true]; rw [q] at k; exact k _ _ (e1.trans e2) (.bl _)
  | true =>
    rw [if_pos rfl]
    rw [q] at k
    refine hc σ H2 _ ((E.mono e1).mono e2) fun z H3 e3 dz => ?_
    have hz := dp_int dz
    subst hz
    exact ⟨j, l, rfl, rfl, k _ _ ((e1.trans e2).trans e3) (.bl _)⟩
/-! ### and, or, not, if else -/
theorem ed_andV {i j : Bool} (ha : ED X F ρ a (.bool i)) (hb : i = true → ED X F ρ (.BoolOp .And (b :: es) pos) (.bool j)) : ED X F ρ (.BoolOp .And (a :: b :: es) pos) (.bool (i && j)) := fun σ H Q E k => by
  refine ofE (pe_and pe_w pe_w) ?_
  refine ha σ H _ E fun x H1 e1 dx => ⟨i, dp_bl dx, ?_⟩
  cases i with
  | true => rw [if_pos rfl]; exact hb rfl σ H1 _ (E.mono e1) fun v H' e2 dv => k v H' (e1.trans e2) dv
  | false => rw [if_neg Bool.false_ne_true]; exact k _ _ e1 (.bl _)
theorem ed_orV {i j : Bool} (ha : ED X F ρ a (.bool i)) (hb : i = false → ED X F ρ (.BoolOp .Or (b :: es) pos) (.bool j)) : ED X F ρ (.BoolOp .Or (a :: b :: es) pos) (.bool (i || j)) := fun σ H Q E k => by
  refine ofE (pe_or pe_w pe_w) ?_
  refine ha σ H _ E fun x H1 e1 dx => ⟨i, dp_bl dx, ?_⟩
  cases i with
  | false => rw [if_neg Bool.false_ne_true]; exact hb rfl σ H1 _ (E.mono e1) fun v H' e2 dv => k v H' (e1.trans e2) dv
  | true => rw [if_pos rfl]; exact k _ _ e1 (.bl _)
theorem ed_oneV {op : BoolOp} (ha : ED X F ρ a d) : ED X F ρ (.BoolOp op [a] pos) d := fun σ H Q E k => ofE (pe_one pe_w) (ha σ H Q E k)
theorem ed_notV {i : Bool} (ha : ED X F ρ a (.bool i)) : ED X F ρ (.UnaryOp .Not a pos) (.bool (!i)) := fun σ H Q E k => by
  refine ofE (pe_not pe_w) ?_
  exact ha σ H _ E fun x H1 e1 dx => ⟨i, dp_bl dx, k _ _ e1 (.bl _)⟩
theorem ed_if {i : Bool} (hc : TD X F ρ c i) (ha : i = true → ED X F ρ a d) (hb : i = false → ED X F ρ b d) : ED X F ρ (.IfExp c a b pos) d := fun σ H Q E k => by
  refine ofE (pe_ifExp pt_w pe_w pe_w) ?_
  refine hc σ H _ E fun H1 e1 => ?_
  cases i with
  | true => rw [if_pos rfl]; exact ha rfl σ H1 _ (E.mono e1) fun v H' e2 dv => k v H' (e1.trans e2) dv
  | false => rw [if_neg Bool.false_ne_true]; exact hb rfl σ H1 _ (E.mono e1) fun v H' e2 dv => k v H' (e1.trans e2) dv
/-! ### tests -/
theorem td_val {i : Bool} (h : ED X F ρ e (.bool i)) (he : ∀ whole, isTrue e X.env whole = (do let v ← whole; standAt e.pos; holding [v] (truthy v)) := by intro _; rfl) : TD X F ρ e i := fun σ H Q E k => by
  refine ofT (pt_val pe_w he) ?_
  exact h σ H _ E fun x H1 e1 dx => ⟨i, dp_bl dx, k _ e1⟩
theorem td_cmp2 {r : R2} {op : CmpOp} {i : Bool} (ho : OpR X (compareOp op) r) (ha : ED X F ρ a d1) (hb : ED X F ρ b d2) (hr : ∀ x y H (Q : VK), Dp X.K H x d1 → Dp X.K H y d2 → (∀ H', Same H H' → Q (.bl i) H') → r x y H Q)
    (hm : behindInMarks op b = false) : TD X F ρ (.Compare a [op] [b] pos) i := fun σ H Q E k => by
  refine ofT (pt_cmpR ho pe_w pe_w hm) ?_
  refine ha σ H _ E fun x H1 e1 dx => ?_
  refine hb σ H1 _ (E.mono e1) fun y H2 e2 dy => ?_
  exact hr x y H2 _ (dp_mono e2 dx) dy fun H' e3 => ⟨i, rfl, k _ ((e1.trans e2).trans e3)⟩
theorem td_lt {i j : Int} (ha : ED X F ρ a (.int i)) (hb : ED X F ρ b (.int j)) : TD X F ρ (.Compare a [.Lt] [b] pos) (decide (i < j)) :=
  td_cmp2 op_lt ha hb (fun x y H Q hx hy k => ⟨i, j, dp_int hx, dp_int hy, k _ (Same.refl H)⟩) (nomark _)
theorem td_le {i j : Int} (ha : ED X F ρ a (.int i)) (hb : ED X F ρ b (.int j)) : TD X F ρ (.Compare a [.LtE] [b] pos) (decide (i ≤ j)) :=
  td_cmp2 op_le ha hb (fun x y H Q hx hy k => ⟨i, j, dp_int hx, dp_int hy, k _ (Same.refl H)⟩) (nomark _)
theorem td_gt {i j : Int} (ha : ED X F ρ a (.int i)) (hb : ED X F ρ b (.int j)) : TD X F ρ (.Compare a [.Gt] [b] pos) (decide (j < i)) :=
  td_cmp2 op_gt ha hb (fun x y H Q hx hy k => ⟨i, j, dp_int hx, dp_int hy, k _ (Same.refl H)⟩) (nomark _)
theorem td_ge {i j : Int} (ha : ED X F ρ a (.int i)) (hb : ED X F ρ b (.int j)) : TD X F ρ (.Compare a [.GtE] [b] pos) (decide (j ≤ i)) :=
  td_cmp2 op_ge ha hb (fun x y H Q hx hy k => ⟨i, j, dp_int hx, dp_int hy, k _ (Same.refl H)⟩) (nomark _)
theorem td_eqI {i j : Int} (ha : ED X F ρ a (.int i)) (hb : ED X F ρ b (.int j)) : TD X F ρ (.Compare a [.Eq] [b] pos) (decide (i = j)) :=
  td_cmp2 op_eq ha hb (fun x y H Q hx hy k => by rw [dp_int hx, dp_int hy]; exact ⟨rfl, by rw [decI]; exact k _ (Same.refl H)⟩) (nomark _)
theorem td_neI {i j : Int} (ha : ED X F ρ a (.int i)) (hb : ED X F ρ b (.int j)) : TD X F ρ (.Compare a [.NotEq] [b] pos) (!decide (i = j)) :=
  td_cmp2 op_ne ha hb (fun x y H Q hx hy k => by rw [dp_int hx, dp_int hy]; exact ⟨rfl, by rw [decI]; exact k _ (Same.refl H)⟩) (nomark _)
theorem td_eqB {i j : Bool} (ha : ED X F ρ a (.bool i)) (hb : ED X F ρ b (.bool j)) : TD X F ρ (.Compare a [.Eq] [b] pos) (decide (i = j)) :=
  td_cmp2 op_eq ha hb (fun x y H Q hx hy k => by rw [dp_bl hx, dp_bl hy]; exact ⟨rfl, by rw [decB]; exact k _ (Same.refl H)⟩) (nomark _)
theorem td_neB {i j : Bool} (ha : ED X F ρ a (.bool i)) (hb : ED X F ρ b (.bool j)) : TD X F ρ (.Compare a [.NotEq] [b] pos) (!decide (i = j)) :=
  td_cmp2 op_ne ha hb (fun x y H Q hx hy k => by rw [dp_bl hx, dp_bl hy]; exact ⟨rfl, by rw [decB]; exact k _ (Same.refl H)⟩) (nomark _)
theorem td_eqD (hu : X.A.units + 64 < cLine) (ha : ED X F ρ a d1) (hb : ED X F ρ b d2) (h1 : SeqAt.shaped d1 = true) (h2 : SeqAt.shaped d2 = true) : TD X F ρ (.Compare a [.Eq] [b] pos) (PyData.eqv d1 d2) :=
  td_cmp2 (op_eqD hu) ha hb (fun x y H Q hx hy k => ⟨d1, d2, hx, hy, h1, h2, k _ (Same.refl H)⟩) (nomark _)
theorem td_neD (hu : X.A.units + 64 < cLine) (ha : ED X F ρ a d1) (hb : ED X F ρ b d2) (h1 : SeqAt.shaped d1 = true) (h2 : SeqAt.shaped d2 = true) : TD X F ρ (.Compare a [.NotEq] [b] pos) (!PyData.eqv d1 d2) :=
  td_cmp2 (op_neD hu) ha hb (fun x y H Q hx hy k => ⟨d1, d2, hx, hy, h1, h2, k _ (Same.refl H)⟩) (nomark _)
theorem td_isN {j : Nat} {p3 : Pos} (ha : ED X F ρ a d) : TD X F ρ (.Compare a [.Is] [.Constant .none j p3] pos) (isNone d) := fun σ H Q E k => by
  refine ofT (pt_cmp (pc_isN pe_w) rfl) ?_
  refine ha σ H _ E fun x H1 e1 dx => ⟨isNone d, ?_, k _ e1⟩
  rw [dp_isnon dx]
theorem td_notN {j : Nat} {p3 : Pos} (ha : ED X F ρ a d) : TD X F ρ (.Compare a [.IsNot] [.Constant .none j p3] pos) (!isNone d) := fun σ H Q E k => by
  refine ofT (pt_cmp (pc_notN pe_w) rfl) ?_
  refine ha σ H _ E fun x H1 e1 dx => ⟨!isNone d, ?_, k _ e1⟩
  rw [dp_isnon dx]
/-- a test whatever its whole is -/
def wW (X : Cx) (e : Expr) : TT := fun σ H Q => ∀ (whole : Sem Value) (pins : List (Addr × Obj)) (s : Shared), Inv X pins σ H s → wpAny (model X.prog X.w) X.A (isTrue e X.env whole) (TP X pins σ Q) X.xe s
theorem pw_w : PW X e (wW X e) := ⟨fun whole pins s σ H Q I h => h whole pins s I⟩
def TW (X : Cx) (F : Hp) (ρ : Rho) (e : Expr) (b : Bool) : Prop := ∀ σ H Q, EnvOk X.K F H σ ρ → (∀ H', Same H H' → Q b H') → wW X e σ H Q
theorem td_w {i : Bool} (h : TW X F ρ e i) : TD X F ρ e i := fun σ H Q E k => ofT pw_w.pt (h σ H Q E k)
theorem ofW {t : TT} {σ : L2.St} {H : Hp} {Q : Bool → Hp → Prop} (h : PW X e t) (q : t σ H Q) : wW X e σ H Q := fun wh pins s I => h.run wh pins s σ H Q I q
theorem tw_and1 {i : Bool} (h : TD X F ρ a i) : TW X F ρ (.BoolOp .And [a] pos) i := fun σ H Q E k => ofW (pw_and1 pt_w) (h σ H Q E k)
theorem tw_or1 {i : Bool} (h : TD X F ρ a i) : TW X F ρ (.BoolOp .Or [a] pos) i := fun σ H Q E k => ofW (pw_or1 pt_w) (h σ H Q E k)
theorem tw_and {i j : Bool} (ha : TD X F ρ a i) (hb : i = true → TW X F ρ (.BoolOp .And (b :: es) pos) j) : TW X F ρ (.BoolOp .And (a :: b :: es) pos) (i && j) := fun σ H Q E k => by
  refine ofW (pw_and pt_w pw_w) ?_
  refine ha σ H _ E fun H1 e1 => ?_
  cases i with
  | true => rw [if_pos rfl]; exact hb rfl σ H1 _ (E.mono e1) fun H' e2 => k H' (e1.trans e2)
  | false => rw [if_neg Bool.false_ne_true]; exact k _ e1
theorem tw_or {i j : Bool} (ha : TD X F ρ a i) (hb : i = false → TW X F ρ (.BoolOp .Or (b :: es) pos) j) : TW X F ρ (.BoolOp .Or (a :: b :: es) pos) (i || j) := fun σ H Q E k => by
  refine ofW (pw_or pt_w pw_w) ?_
  refine ha σ H _ E fun H1 e1 => ?_
  cases i with
  | false => rw [if_neg Bool.false_ne_true]; exact hb rfl σ H1 _ (E.mono e1) fun H' e2 => k H' (e1.trans e2)
  | true => rw [if_pos rfl]; exact k _ e1
theorem td_not {i : Bool} (h : TD X F ρ a i) : TD X F ρ (.UnaryOp .Not a pos) (!i) := fun σ H Q E k => ofT (pt_not pt_w) (h σ H _ E fun H1 e1 => k _ e1)
/-! ### arguments -/
theorem ea_nil : EA X F ρ [] [] := fun σ H Q E k => ofA pa_nil (k _ _ (Same.refl H) .nil)
end
end DL
end
section
namespace DL
open PySem PySem.Spec PyProof.Rows L2
section
variable {X : Cx} {F : Hp} {ρ : Rho} {a b c e f : Expr} {es : List Expr} {pos p2 p : Pos} {d d1 d2 d3 : PyData} {ds : List PyData} {P : PyData → Prop} {x : Str}
theorem er_of (h : ED X F ρ e d) (q : P d) : ER X F ρ e P := fun σ H Q E k => h σ H Q E fun v H' e1 dv => k d v H' q e1 dv
theorem ed_of (h : ER X F ρ e (· = d)) : ED X F ρ e d := fun σ H Q E k => h σ H Q E fun d' v H' q e1 dv => k v H' e1 (q ▸ dv)
theorem ER.imp {P' : PyData → Prop} (h : ER X F ρ e P) (q : ∀ d, P d → P' d) : ER X F ρ e P' := fun σ H Q E k => h σ H Q E fun d' v H' r e1 dv => k d' v H' (q _ r) e1 dv
theorem ea_cons (ha : ED X F ρ a d) (hr : EA X F ρ es ds) (hs : starEach (a :: es) X.env = (false, eval a X.env) :: starEach es X.env := by rfl) : EA X F ρ (a :: es) (d :: ds) := fun σ H Q E k => by
  refine ofA (pa_cons pe_w pa_w hs) ?_
  refine ha σ H _ E fun v H1 e1 dv => ?_
  exact hr σ H1 _ (E.mono e1) fun vs H2 e2 dvs => k _ _ (e1.trans e2) (.cons (dp_mono e2 dv) dvs)
/-! ### defs of the module -/
/-- arguments, and what is told of the result -/
abbrev RelF := List PyData → (PyData → Prop) → Prop
def spR (K : PySem.W.Frag) (R : RelF) : Sp := fun vs H Q _ => ∃ ds P, DpAll K H vs ds ∧ R ds P ∧ ∀ d v H', P d → Same H H' → Dp K H' v d → Q v H'
/-- a def that may be called by its name -/
structure Cal (P : Program) (w : World) (K : PySem.W.Frag) (mg : Str → Option Value) (base : Heap) (k : Nat) (x : Str) (sp : Sp) : Prop where
  ex : ∃ (f : Addr) (fd : FuncData) (ps : List Str), FnOk P w K mg base CX0 k f fd ps sp ∧ mg x = some (.ref f) ∧ PySem.W.keepIn K (.ref f) = true ∧ Binds K fd ps []
theorem pe_cal {k j : Nat} {sp : Sp} {t : TA} (c : Cal X.prog X.w X.K X.mg X.base k x sp) (hr : Room j X.A) (hk : k ≤ j) (hg : Gl X x) (ha : PA X (e :: es) t)
    (hdb : (x == ("__debug__" : Str)) = false := by decide) (he : starEach (e :: es) X.env = (false, eval e X.env) :: starEach es X.env := by rfl) (hpl : (backTo pos (starEach es X.env)).any (·.1) = false := by rfl) :
    PE X (.Call (.Name x p) (e :: es) [] pos) (tCall sp [] E0 t) := by
  obtain ⟨f, fd, ps, F, hm, kp, bd⟩ := c.ex
  exact pe_call F (hr.mono hk) hg hm kp bd .nil pass0 ha hdb he hpl
theorem er_call {k j : Nat} {R : RelF} (c : Cal X.prog X.w X.K X.mg X.base k x (spR X.K R)) (hr : Room j X.A) (hk : k ≤ j) (ha : EA X F ρ (e :: es) ds) (hR : R ds P) (hg : Gl X x := by rfl)
    (hdb : (x == ("__debug__" : Str)) = false := by decide) (he : starEach (e :: es) X.env = (false, eval e X.env) :: starEach es X.env := by rfl) (hpl : (backTo pos (starEach es X.env)).any (·.1) = false := by rfl) :
    ER X F ρ (.Call (.Name x p) (e :: es) [] pos) P := fun σ H Q E k => by
  refine ofE (pe_cal c hr hk hg pa_w hdb he hpl) ?_
  refine ha σ H _ E fun vs H1 e1 dvs => ⟨ds, P, by rw [List.append_nil]; exact dvs, hR, fun d v H' hp e2 dv => k d v H' hp (e1.trans e2) dv⟩
theorem ed_call {k j : Nat} {R : RelF} (c : Cal X.prog X.w X.K X.mg X.base k x (spR X.K R)) (hr : Room j X.A) (hk : k ≤ j) (ha : EA X F ρ (e :: es) ds) (hR : R ds (· = d)) (hg : Gl X x := by rfl)
    (hdb : (x == ("__debug__" : Str)) = false := by decide) (he : starEach (e :: es) X.env = (false, eval e X.env) :: starEach es X.env := by rfl) (hpl : (backTo pos (starEach es X.env)).any (·.1) = false := by rfl) :
    ED X F ρ (.Call (.Name x p) (e :: es) [] pos) d := ed_of (er_call c hr hk ha hR hg hdb he hpl)
/-! ### built-ins -/
theorem er_bi {id : String} {r : List V → Hp → VK → Prop} (hc : CallR X (.builtin id) r) (hm : X.mg x = none) (hv : bootBuiltins x = some (.builtin id)) (ha : EA X F ρ (e :: es) ds)
    (hr : ∀ vs H (Q : VK), DpAll X.K H vs ds → (∀ d v H', P d → Same H H' → Dp X.K H' v d → Q v H') → r vs H Q) (hg : Gl X x := by rfl) (hn : x ≠ "__name__" := by decide) (hdb : (x == ("__debug__" : Str)) = false := by decide)
    (he : starEach (e :: es) X.env = (false, eval e X.env) :: starEach es X.env := by rfl) (hpl : (backTo pos (starEach es X.env)).any (·.1) = false := by rfl) : ER X F ρ (.Call (.Name x p) (e :: es) [] pos) P := fun σ H Q E k => by
  refine ofE (pe_callB hc hg hm hv pa_w hn hdb he hpl) ?_
  exact ha σ H _ E fun vs H1 e1 dvs => hr vs H1 Q dvs fun d v H' hp e2 dv => k d v H' hp (e1.trans e2) dv
theorem er_ty {T : String} {r : List V → Hp → VK → Prop} (hc : CallR X (.type T) r) (hm : X.mg x = none) (hv : bootBuiltins x = some (.type T)) (ha : EA X F ρ (e :: es) ds)
    (hr : ∀ vs H (Q : VK), DpAll X.K H vs ds → (∀ d v H', P d → Same H H' → Dp X.K H' v d → Q v H') → r vs H Q) (hg : Gl X x := by rfl) (hn : x ≠ "__name__" := by decide) (hdb : (x == ("__debug__" : Str)) = false := by decide)
    (he : starEach (e :: es) X.env = (false, eval e X.env) :: starEach es X.env := by rfl) (hpl : (backTo pos (starEach es X.env)).any (·.1) = false := by rfl) : ER X F ρ (.Call (.Name x p) (e :: es) [] pos) P := fun σ H Q E k => by
  refine ofE (pe_callTy hc hg hm hv pa_w hn hdb he hpl) ?_
  exact ha σ H _ E fun vs H1 e1 dvs => hr vs H1 Q dvs fun d v H' hp e2 dv => k d v H' hp (e1.trans e2) dv
theorem dpA1 {K : PySem.W.Frag} {H : Hp} {vs : List V} (h : DpAll K H vs [d]) : ∃ v, vs = [v] ∧ Dp K H v d := by cases h with | cons h1 h2 => cases h2; exact ⟨_, rfl, h1⟩
theorem dpA2 {K : PySem.W.Frag} {H : Hp} {vs : List V} (h : DpAll K H vs [d, d1]) : ∃ v u, vs = [v, u] ∧ Dp K H v d ∧ Dp K H u d1 := by
  cases h with
  | cons h1 h2 => obtain ⟨u, rfl, h3⟩ := dpA1 h2; exact ⟨_, u, rfl, h1, h3⟩
section
variable (he : starEach [e] X.env = (false, eval e X.env) :: starEach [] X.env)
theorem ed_lenT (hm : X.mg "len" = none) (h : ED X F ρ e (.tuple ds)) (hg : Gl X "len" := by rfl) (he : starEach [e] X.env = (false, eval e X.env) :: starEach [] X.env := by rfl) : ED X F ρ (.Call (.Name "len" p) [e] [] pos) (.int (ds.length : Nat)) :=
  ed_of (er_bi call_len_seq hm boot_len (ea_cons h ea_nil he) (fun vs H Q dvs k => by
    obtain ⟨v, rfl, dv⟩ := dpA1 dvs
    obtain ⟨q, xs, rfl, hq, hx⟩ := dp_tup dv
    refine ⟨q, xs, rfl, .inr hq, ?_⟩
    rw [dpA_len hx]
    exact k _ _ _ rfl (Same.refl H) (.int _)) hg (he := he))
theorem ed_lenL (hm : X.mg "len" = none) (h : ED X F ρ e (.list ds)) (hg : Gl X "len" := by rfl) (he : starEach [e] X.env = (false, eval e X.env) :: starEach [] X.env := by rfl) : ED X F ρ (.Call (.Name "len" p) [e] [] pos) (.int (ds.length : Nat)) :=
  ed_of (er_bi call_len_seq hm boot_len (ea_cons h ea_nil he) (fun vs H Q dvs k => by
    obtain ⟨v, rfl, dv⟩ := dpA1 dvs
    obtain ⟨q, xs, rfl, hq, hx⟩ := dp_lst dv
    refine ⟨q, xs, rfl, .inl hq, ?_⟩
    rw [dpA_len hx]
    exact k _ _ _ rfl (Same.refl H) (.int _)) hg (he := he))
theorem ed_tupleL (hm : X.mg "tuple" = none) (h : ED X F ρ e (.list ds)) (hg : Gl X "tuple" := by rfl) (he : starEach [e] X.env = (false, eval e X.env) :: starEach [] X.env := by rfl) : ED X F ρ (.Call (.Name "tuple" p) [e] [] pos) (.tuple ds) :=
  ed_of (er_ty call_tuple_of hm (by decide +kernel) (ea_cons h ea_nil he) (fun vs H Q dvs k => by
    obtain ⟨v, rfl, dv⟩ := dpA1 dvs
    obtain ⟨q, xs, rfl, hq, hx⟩ := dp_lst dv
    exact ⟨q, xs, rfl, .inl ⟨hq, fun l hl => k _ _ _ rfl (Same.new hl) (.tup (SqT.of upd_same) (dpA_mono (Same.new hl) hx))⟩⟩) hg (he := he))
theorem ed_listT (hm : X.mg "list" = none) (h : ED X F ρ e (.tuple ds)) (hg : Gl X "list" := by rfl) (he : starEach [e] X.env = (false, eval e X.env) :: starEach [] X.env := by rfl) : ED X F ρ (.Call (.Name "list" p) [e] [] pos) (.list ds) :=
  ed_of (er_ty call_list_of hm (by decide +kernel) (ea_cons h ea_nil he) (fun vs H Q dvs k => by
    obtain ⟨v, rfl, dv⟩ := dpA1 dvs
    obtain ⟨q, xs, rfl, hq, hx⟩ := dp_tup dv
    exact ⟨q, xs, rfl, .inr hq, fun l hl => k _ _ _ rfl (Same.new hl) (.lst (SqL.of upd_same) (dpA_mono (Same.new hl) hx))⟩) hg (he := he))
theorem ed_all {bs : List Bool} (hm : X.mg "all" = none) (hc : X.calm = true) (h : ED X F ρ e (.list (bs.map .bool))) (hg : Gl X "all" := by rfl) (he : starEach [e] X.env = (false, eval e X.env) :: starEach [] X.env := by rfl) : ED X F ρ (.Call (.Name "all" p) [e] [] pos) (.bool (bs.all id)) :=
  ed_of (er_bi (cr_all hc) hm (by decide +kernel) (ea_cons h ea_nil he) (fun vs H Q dvs k => by
    obtain ⟨v, rfl, dv⟩ := dpA1 dvs
    obtain ⟨q, xs, rfl, hq, hx⟩ := dp_lst dv
    rw [dpA_bls hx] at hq
    exact ⟨q, bs, rfl, hq, k _ _ _ rfl (Same.refl H) (.bl _)⟩) hg (he := he))
theorem ed_sum {ns : List Int} (hm : X.mg "sum" = none) (hc : X.calm = true) (h : ED X F ρ e (.list (ns.map .int))) (hg : Gl X "sum" := by rfl) (he : starEach [e] X.env = (false, eval e X.env) :: starEach [] X.env := by rfl) : ED X F ρ (.Call (.Name "sum" p) [e] [] pos) (.int ns.sum) :=
  ed_of (er_bi (cr_sum hc) hm (by decide +kernel) (ea_cons h ea_nil he) (fun vs H Q dvs k => by
    obtain ⟨v, rfl, dv⟩ := dpA1 dvs
    obtain ⟨q, xs, rfl, hq, hx⟩ := dp_lst dv
    rw [dpA_ints hx] at hq
    exact ⟨q, ns, rfl, hq, k _ _ _ rfl (Same.refl H) (.int _)⟩) hg (he := he))
theorem ed_intB {k : Bool} (hm : X.mg "int" = none) (h : ED X F ρ e (.bool k)) (hg : Gl X "int" := by rfl) (he : starEach [e] X.env = (false, eval e X.env) :: starEach [] X.env := by rfl) : ED X F ρ (.Call (.Name "int" p) [e] [] pos) (.int (if k then 1 else 0)) :=
  ed_of (er_ty call_int1 hm (by decide +kernel) (ea_cons h ea_nil he) (fun vs H Q dvs q => by
    obtain ⟨v, rfl, dv⟩ := dpA1 dvs
    rw [dp_bl dv]
    exact .inr ⟨k, rfl, q _ _ _ rfl (Same.refl H) (.int _)⟩) hg (he := he))
theorem ed_abs {i : Int} (hm : X.mg "abs" = none) (h : ED X F ρ e (.int i)) (hg : Gl X "abs" := by rfl) (he : starEach [e] X.env = (false, eval e X.env) :: starEach [] X.env := by rfl) : ED X F ρ (.Call (.Name "abs" p) [e] [] pos) (.int (if i < 0 then -i else i)) :=
  ed_of (er_bi call_abs hm (by decide +kernel) (ea_cons h ea_nil he) (fun vs H Q dvs q => by
    obtain ⟨v, rfl, dv⟩ := dpA1 dvs
    rw [dp_int dv]
    exact ⟨i, rfl, q _ _ _ rfl (Same.refl H) (.int _)⟩) hg (he := he))
end
theorem ed_max2 {i j : Int} (hm : X.mg "max" = none) (hc : X.calm = true) (h : ED X F ρ e (.int i)) (h2 : ED X F ρ f (.int j)) (hg : Gl X "max" := by rfl) (he : starEach [e, f] X.env = (false, eval e X.env) :: starEach [f] X.env := by rfl) (hf : starEach [f] X.env = (false, eval f X.env) :: starEach [] X.env := by rfl)
    (hpl : (backTo pos (starEach [f] X.env)).any (·.1) = false := by rfl) : ED X F ρ (.Call (.Name "max" p) [e, f] [] pos) (.int (if j > i then j else i)) :=
  ed_of (er_bi (call_max2 hc) hm (by decide +kernel) (ea_cons h (ea_cons h2 ea_nil hf) he) (fun vs H Q dvs q => by
    obtain ⟨v, u, rfl, dv, du⟩ := dpA2 dvs
    rw [dp_int dv, dp_int du]
    exact ⟨i, j, rfl, q _ _ _ rfl (Same.refl H) (.int _)⟩) hg (he := he) (hpl := hpl))
theorem ed_min2 {i j : Int} (hm : X.mg "min" = none) (hc : X.calm = true) (h : ED X F ρ e (.int i)) (h2 : ED X F ρ f (.int j)) (hg : Gl X "min" := by rfl) (he : starEach [e, f] X.env = (false, eval e X.env) :: starEach [f] X.env := by rfl) (hf : starEach [f] X.env = (false, eval f X.env) :: starEach [] X.env := by rfl)
    (hpl : (backTo pos (starEach [f] X.env)).any (·.1) = false := by rfl) : ED X F ρ (.Call (.Name "min" p) [e, f] [] pos) (.int (if j < i then j else i)) :=
  ed_of (er_bi (call_min2 hc) hm (by decide +kernel) (ea_cons h (ea_cons h2 ea_nil hf) he) (fun vs H Q dvs q => by
    obtain ⟨v, u, rfl, dv, du⟩ := dpA2 dvs
    rw [dp_int dv, dp_int du]
    exact ⟨i, j, rfl, q _ _ _ rfl (Same.refl H) (.int _)⟩) hg (he := he) (hpl := hpl))
/-- a built-in class's name as a value -/
theorem pe_tyname {T : String} {n : Str} (hm : X.mg n = none) (hv : bootBuiltins n = some (.type T)) (hg : Gl X n := by rfl) (hn : n ≠ "__name__" := by decide) (hd : (n == ("__debug__" : Str)) = false := by decide) : PE X (.Name n pos) (tC (.ty T)) := pe_bltn hg hm hv rfl hn hd
def tyOf : PyData → String
  | .none => "NoneType" | .bool _ => "bool" | .int _ => "int" | .str _ => "str" | .list _ => "list" | .tuple _ => "tuple" | .dict _ => "dict"
end
end DL
end
section
namespace DL
open PySem PySem.Spec PyProof.Rows L2
theorem dp_ty {K : PySem.W.Frag} {H : Hp} {v : V} {d : PyData} (h : Dp K H v d) : TyX K H v (.type (tyOf d)) := by
  cases h with
  | non => exact .base .non
  | bl b => exact .base (.bl b)
  | int i => exact .base (.int i)
  | str x => exact .base (.str x)
  | lst h _ =>
    rcases h with (h | ⟨o, h⟩) | ⟨o, its, n, h1, h2, _⟩
    · exact .base (.lst h)
    · exact .base (.frz h)
    · exact .kList h1 h2
  | tup h _ =>
    rcases h with (h | ⟨o, h⟩) | ⟨o, its, n, h1, h2, _⟩
    · exact .base (.tup h)
    · exact .fTuple h
    · exact .kTuple h1 h2
section
variable {X : Cx} {F : Hp} {ρ : Rho} {a b c e f : Expr} {es : List Expr} {pos p2 p : Pos} {d d1 d2 d3 : PyData} {ds : List PyData} {P : PyData → Prop} {x : Str}
/-- isinstance(e, T), T a built-in class -/
theorem ed_isi {n : Str} {T : String} {r : Bool} (hm : X.mg "isinstance" = none) (hn : X.mg n = none) (hv : bootBuiltins n = some (.type T)) (h : ED X F ρ e d) (hk : kitB (tyOf d) T = some r) (hg : Gl X "isinstance" := by rfl) (hgn : Gl X n := by rfl)
    (hn1 : n ≠ "__name__" := by decide) (hn2 : (n == ("__debug__" : Str)) = false := by decide)
    (he : starEach [e, .Name n p2] X.env = (false, eval e X.env) :: starEach [.Name n p2] X.env := by rfl) (hpl : (backTo pos (starEach [.Name n p2] X.env)).any (·.1) = false := by rfl) :
    ED X F ρ (.Call (.Name "isinstance" p) [e, .Name n p2] [] pos) (.bool r) := fun σ H Q E k => by
  refine ofE (pe_callB call_isi hg hm (by decide +kernel) (pa_cons pe_w (pa_cons (pe_tyname hn hv hgn hn1 hn2) pa_nil) he) (by decide) (by decide) he hpl) ?_
  refine h σ H _ E fun v H1 e1 dv => ?_
  exact ⟨v, .ty T, .type (tyOf d), .type T, r, rfl, .ty T, dp_ty dv, kit_ty hk, k _ _ e1 (.bl _)⟩
/-! ### subscripts -/
theorem atI_of {α : Type} {xs : List α} {j : Nat} {v : α} (h : xs[j]? = some v) : atI xs (j : Int) = some v := atI_nat h
theorem ed_ixT {j : Nat} (ha : ED X F ρ a (.tuple ds)) (hb : ED X F ρ b (.int (j : Int))) (h : ds[j]? = some d) (hs : PlainIx b := by intro _ _; rfl) : ED X F ρ (.Subscript a b pos) d :=
  ed_two (pe_ix ix_tup pe_w pe_w hs) ha hb fun x y H Q hx hy k => by
    obtain ⟨q, xs, rfl, hq, hxs⟩ := dp_tup hx
    obtain ⟨v, hv, dv⟩ := dpA_get hxs h
    exact ⟨q, xs, (j : Int), v, rfl, dp_int hy, hq, atI_nat hv, k _ _ (Same.refl H) dv⟩
theorem ed_ixL {j : Nat} (ha : ED X F ρ a (.list ds)) (hb : ED X F ρ b (.int (j : Int))) (h : ds[j]? = some d) (hs : PlainIx b := by intro _ _; rfl) : ED X F ρ (.Subscript a b pos) d :=
  ed_two (pe_ix ix_list pe_w pe_w hs) ha hb fun x y H Q hx hy k => by
    obtain ⟨q, xs, rfl, hq, hxs⟩ := dp_lst hx
    obtain ⟨v, hv, dv⟩ := dpA_get hxs h
    exact ⟨q, xs, (j : Int), v, rfl, dp_int hy, hq, atI_nat hv, k _ _ (Same.refl H) dv⟩
/-- the part of a slice -/
def EO (X : Cx) (F : Hp) (ρ : Rho) (o : Option Expr) (i : Option Int) : Prop := match o, i with
  | none, none => True
  | some e, some i => ED X F ρ e (.int i)
  | _, _ => False
theorem ed_sliceT {lo hi : Option Expr} {i j : Option Int} (ha : ED X F ρ a (.tuple ds)) (hl : EO X F ρ lo i) (hh : EO X F ρ hi j) :
    ED X F ρ (.Subscript a (.Slice lo hi none p2) pos) (.tuple ((ds.drop (HT.sIx ds.length 0 i)).take (HT.sIx ds.length ds.length j - HT.sIx ds.length 0 i))) := fun σ H Q E k => by
  have part : ∀ {o : Option Expr} {i : Option Int}, EO X F ρ o i → ∃ t, PO X o t ∧ ∀ σ H (Q : Option Int → Hp → Prop), EnvOk X.K F H σ ρ → (∀ H', Same H H' → Q i H') → t σ H Q := by
    intro o i h
    cases o with
    | none =>
      cases i with
      | none => exact ⟨_, po_none, fun σ H Q _ k => k H (Same.refl H)⟩
      | some _ => exact h.elim
    | some e =>
      cases i with
      | none => exact h.elim
      | some i => exact ⟨_, po_some pe_w, fun σ H Q E k => h σ H _ E fun v H' e1 dv => ⟨i, dp_int dv, k _ e1⟩⟩
  obtain ⟨tl, pl, kl⟩ := part hl
  obtain ⟨th, ph, kh⟩ := part hh
  refine ofE (pe_slice sl_tupA pe_w pl ph) ?_
  refine ha σ H _ E fun v H1 e1 dv => ?_
  refine kl σ H1 _ (E.mono e1) fun H2 e2 => ?_
  refine kh σ H2 _ ((E.mono e1).mono e2) fun H3 e3 => ?_
  obtain ⟨q, xs, rfl, hq, hxs⟩ := dp_tup (dp_mono (e2.trans e3) dv)
  have hl := dpA_len hxs
  refine ⟨q, xs, rfl, hq, fun hw => ?_, fun _ p hp => ?_⟩
  · refine k _ _ ((e1.trans e2).trans e3) (.tup hq ?_)
    rw [hl] at hw
    rw [hw.1, hw.2, List.drop_zero, Nat.sub_zero, List.take_length]
    exact hxs
  · refine k _ _ (((e1.trans e2).trans e3).trans (Same.new hp)) (.tup (SqT.of upd_same) (dpA_mono (Same.new hp) ?_))
    unfold cutV
    rw [hl]
    exact dpA_take (dpA_drop hxs _) _
/-- t[k:] -/
theorem ed_from {lo : Expr} {n : Nat} (ha : ED X F ρ a (.tuple ds)) (hl : ED X F ρ lo (.int (n : Int))) : ED X F ρ (.Subscript a (.Slice (some lo) none none p2) pos) (.tuple (ds.drop n)) :=
  ed_eq (ed_sliceT (i := some (n : Int)) (j := none) ha hl trivial) (by
    rw [HT.sIx_nat, HT.sIx_none]
    by_cases h : n ≤ ds.length
    · rw [Nat.min_eq_left h, List.take_of_length_le (by simp)]
    · rw [Nat.min_eq_right (by omega), List.drop_eq_nil_of_le (Nat.le_refl _), List.drop_eq_nil_of_le (by omega)]; simp)
/-- t[:k] -/
theorem ed_upto {hi : Expr} {n : Nat} (ha : ED X F ρ a (.tuple ds)) (hh : ED X F ρ hi (.int (n : Int))) : ED X F ρ (.Subscript a (.Slice none (some hi) none p2) pos) (.tuple (ds.take n)) :=
  ed_eq (ed_sliceT (i := none) (j := some (n : Int)) ha trivial hh) (by
    rw [HT.sIx_nat, HT.sIx_none]
    simp only [List.drop_zero, Nat.sub_zero]
    by_cases h : n ≤ ds.length
    · rw [Nat.min_eq_left h]
    · rw [Nat.min_eq_right (by omega), List.take_length, List.take_of_length_le (by omega)])
/-! ### displays, sums of tuples -/
theorem ed_tup {x1 : Nat} (h : EA X F ρ es ds) (hl : ds.length ≤ 100000) : ED X F ρ (.Tuple es x1 pos) (.tuple ds) := fun σ H Q E k => by
  refine ofE (pe_tup pa_w) ?_
  refine h σ H _ E fun vs H1 e1 dvs => ⟨?_, fun p hp => k _ _ (e1.trans (Same.new hp)) (.tup (SqT.of upd_same) (dpA_mono (Same.new hp) dvs))⟩
  rw [dpA_len dvs]
  exact Nat.le_trans hl (by decide)
theorem ed_lst (h : EA X F ρ es ds) (hl : ds.length ≤ 100000) : ED X F ρ (.List es pos) (.list ds) := fun σ H Q E k => by
  refine ofE (pe_lst pa_w) ?_
  refine h σ H _ E fun vs H1 e1 dvs => ⟨?_, fun p hp => k _ _ (e1.trans (Same.new hp)) (.lst (SqL.of upd_same) (dpA_mono (Same.new hp) dvs))⟩
  rw [dpA_len dvs]
  exact Nat.le_trans hl (by decide)
theorem ed_cat {es1 es2 : List PyData} (ha : ED X F ρ a (.tuple es1)) (hb : ED X F ρ b (.tuple es2)) (hl : es1.length + es2.length ≤ 100000) : ED X F ρ (.BinOp a .Add b pos) (.tuple (es1 ++ es2)) :=
  ed_two (pe_op op_catA pe_w pe_w) ha hb fun x y H Q hx hy k => by
    obtain ⟨q, xs, rfl, hq, hxs⟩ := dp_tup hx
    obtain ⟨r, ys, rfl, hr, hys⟩ := dp_tup hy
    have l1 := dpA_len hxs
    have l2 := dpA_len hys
    refine ⟨q, r, xs, ys, rfl, rfl, hq, hr, Nat.le_trans (by omega : xs.length + ys.length ≤ 100000) (by decide), fun h0 => ?_, fun h0 h1 => ?_, fun h0 h1 p hp => ?_⟩
    · subst h0
      cases es1 with
      | nil => exact k _ _ (Same.refl H) (.tup hr hys)
      | cons _ _ => cases hxs
    · subst h1
      cases es2 with
      | nil => exact k _ _ (Same.refl H) (.tup hq (by rw [List.append_nil]; exact hxs))
      | cons _ _ => cases hys
    · exact k _ _ (Same.new hp) (.tup (SqT.of upd_same) (dpA_mono (Same.new hp) (dpA_app hxs hys)))
/-! ### what is walked -/
def WalkD (K : PySem.W.Frag) (J : It) (H1 : Hp) (items : List PyData) : Prop :=
  ∀ H, Same H1 H → (∀ i, i < items.length → J.go i H) ∧ J.stop items.length H ∧ ∀ i x H' d, items[i]? = some d → J.yld i H x H' → Same H H' ∧ Dp K H' x d
def IT (X : Cx) (F : Hp) (ρ : Rho) (tg iter : Expr) (items : List PyData) : Prop := ∀ σ H R, EnvOk X.K F H σ ρ → (∀ J H1, Same H H1 → WalkD X.K J H1 items → R J H1) → wI X tg iter σ H R
variable {tg : Expr}
theorem seqT_mono {K : PySem.W.Frag} {H H' : Hp} {a : Addr} {xs : List V} (e : Same H H') (h : SqT K H a xs) : SqT K H' a xs := by
  rcases h with (h | ⟨o, h⟩) | h
  · exact .inl (.inl (e _ _ h))
  · exact .inl (.inr ⟨o, e _ _ h⟩)
  · exact .inr h
theorem walkD_tup {K : PySem.W.Frag} {H1 : Hp} {q : Addr} {xs : List V} (hq : SqT K H1 q xs) (hxs : DpAll K H1 xs ds) : WalkD K (Itt K q) H1 ds := fun H e => by
  have hq' := seqT_mono e hq
  have l := dpA_len hxs
  refine ⟨fun i hi => ⟨xs, xs[i]'(by omega), hq', by simp [l ▸ hi]⟩, ⟨xs, hq', by omega⟩, fun i x H' d hd y => ?_⟩
  obtain ⟨rfl, y⟩ := y
  obtain ⟨v, hv, dv⟩ := dpA_get hxs hd
  have := y xs hq'
  rw [hv] at this
  cases this
  exact ⟨Same.refl _, dp_mono e dv⟩
theorem walkD_lst {K : PySem.W.Frag} {H1 : Hp} {q : Addr} {xs : List V} (hq : SqL K H1 q xs) (hxs : DpAll K H1 xs ds) : WalkD K (Itl K q) H1 ds := fun H e => by
  have hq' := e.seq hq
  have l := dpA_len hxs
  refine ⟨fun i hi => ⟨xs, xs[i]'(by omega), hq', by simp [l ▸ hi]⟩, ⟨xs, hq', by omega⟩, fun i x H' d hd y => ?_⟩
  obtain ⟨rfl, y⟩ := y
  obtain ⟨v, hv, dv⟩ := dpA_get hxs hd
  have := y xs hq'
  rw [hv] at this
  cases this
  exact ⟨Same.refl _, dp_mono e dv⟩
theorem it_tup (h : ED X F ρ e (.tuple ds)) : IT X F ρ tg e ds := fun σ H R E k => by
  refine ofI (pi_tup pe_w) ?_
  refine h σ H _ E fun v H1 e1 dv => ?_
  obtain ⟨q, xs, rfl, hq, hxs⟩ := dp_tup dv
  exact ⟨q, rfl, ⟨xs, hq⟩, k _ _ e1 (walkD_tup hq hxs)⟩
theorem it_lst (h : ED X F ρ e (.list ds)) : IT X F ρ tg e ds := fun σ H R E k => by
  refine ofI (pi_list pe_w) ?_
  refine h σ H _ E fun v H1 e1 dv => ?_
  obtain ⟨q, xs, rfl, hq, hxs⟩ := dp_lst dv
  exact ⟨q, rfl, ⟨xs, hq⟩, k _ _ e1 (walkD_lst hq hxs)⟩
def intsL (lo : Int) (n : Nat) : List PyData := (List.range n).map fun i => .int (lo + (i : Nat))
theorem intsL_len (lo : Int) (n : Nat) : (intsL lo n).length = n := by simp [intsL]
theorem intsL_get {lo : Int} {n i : Nat} {d : PyData} (h : (intsL lo n)[i]? = some d) : i < n ∧ d = .int (lo + i) := by
  unfold intsL at h
  rw [List.getElem?_map, Option.map_eq_some_iff] at h
  obtain ⟨j, hj, rfl⟩ := h
  have := List.getElem?_eq_some_iff.mp hj
  obtain ⟨h1, h2⟩ := this
  simp at h1 h2
  exact ⟨h1, by rw [h2]⟩
theorem walkD_rng {K : PySem.W.Frag} {H1 : Hp} {lo : Int} {n : Nat} : WalkD K (Itr lo n) H1 (intsL lo n) := fun H e => by
  rw [intsL_len]
  refine ⟨fun i hi => hi, Nat.le_refl _, fun i x H' d hd y => ?_⟩
  obtain ⟨rfl, rfl⟩ := y
  obtain ⟨_, rfl⟩ := intsL_get hd
  exact ⟨Same.refl _, .int _⟩
theorem it_range1 {j : Int} (hm : X.mg "range" = none) (h : ED X F ρ a (.int j)) (hj : -1000000 ≤ j ∧ j ≤ 1000000) (hg : Gl X "range" := by rfl) (hs : starEach [a] X.env = [(false, eval a X.env)] := by rfl) : IT X F ρ tg (.Call (.Name "range" p) [a] [] pos) (intsL 0 j.toNat) := fun σ H R E k => by
  refine ofI (pi_range1 hg hm pa_w hs) ?_
  refine (ea_cons h ea_nil hs) σ H _ E fun vs H1 e1 dvs => ?_
  obtain ⟨v, rfl, dv⟩ := dpA1 dvs
  exact ⟨j, by rw [dp_int dv], by omega, by omega, k _ _ e1 walkD_rng⟩
theorem it_range3 {i j c' : Int} {n : Nat} (hm : X.mg "range" = none) (ha : ED X F ρ a (.int i)) (hb : ED X F ρ b (.int j)) (hc : ED X F ρ c (.int c')) (hn : RgC i j c' n) (hg : Gl X "range" := by rfl) (hs : starEach [a, b, c] X.env = (false, eval a X.env) :: starEach [b, c] X.env := by rfl)
    (hs2 : starEach [b, c] X.env = (false, eval b X.env) :: starEach [c] X.env := by rfl) (hs3 : starEach [c] X.env = (false, eval c X.env) :: starEach [] X.env := by rfl) (hpl : (backTo pos (starEach [b, c] X.env)).any (·.1) = false := by rfl) :
    IT X F ρ tg (.Call (.Name "range" p) [a, b, c] [] pos) ((List.range n).map fun t => .int (i + (t : Nat) * c')) := fun σ H R E k => by
  refine ofI (pi_range3 hg hm pa_w hs hpl) ?_
  refine (ea_cons ha (ea_cons hb (ea_cons hc ea_nil hs3) hs2) hs) σ H _ E fun vs H1 e1 dvs => ?_
  cases dvs with
  | cons h1 h2 =>
    obtain ⟨u, v, rfl, du, dv⟩ := dpA2 h2
    refine ⟨i, j, c', n, by rw [dp_int h1, dp_int du, dp_int dv], hn, k _ _ e1 fun H e => ?_⟩
    refine ⟨fun t ht => by simpa [Itc] using ht, by simp [Itc], fun t x H' d hd y => ?_⟩
    obtain ⟨rfl, rfl⟩ := y
    rw [List.getElem?_map, Option.map_eq_some_iff] at hd
    obtain ⟨q, hq, rfl⟩ := hd
    obtain ⟨h1, h2⟩ := List.getElem?_eq_some_iff.mp hq
    simp at h2
    subst h2
    exact ⟨Same.refl _, .int _⟩
/-- zip of two tuples -/
def pairs (xs ys : List PyData) : List PyData := List.zipWith (fun x y => .tuple [x, y]) xs ys
theorem pairs_get {xs ys : List PyData} {i : Nat} {d : PyData} (h : (pairs xs ys)[i]? = some d) : ∃ x y, xs[i]? = some x ∧ ys[i]? = some y ∧ d = .tuple [x, y] := by
  unfold pairs at h
  rw [List.getElem?_zipWith] at h
  cases hx : xs[i]? with
  | none => rw [hx] at h; simp at h
  | some x =>
    cases hy : ys[i]? with
    | none => rw [hx, hy] at h; simp at h
    | some y => rw [hx, hy] at h; simp at h; exact ⟨x, y, rfl, rfl, h.symm⟩
theorem it_zipT {elts : List Expr} {kk : Nat} {tpos : Pos} {es1 es2 : List PyData} (hm : X.mg "zip" = none) (ha : ED X F ρ a (.tuple es1)) (hb : ED X F ρ b (.tuple es2)) (hg : Gl X "zip" := by rfl) (hs : starEach [a, b] X.env = (false, eval a X.env) :: starEach [b] X.env := by rfl)
    (hs2 : starEach [b] X.env = (false, eval b X.env) :: starEach [] X.env := by rfl) (hpl : (backTo pos (starEach [b] X.env)).any (·.1) = false := by rfl) : IT X F ρ (.Tuple elts kk tpos) (.Call (.Name "zip" p) [a, b] [] pos) (pairs es1 es2) := fun σ H R E k => by
  refine ofI (RZ.pi_zipA hg hm pa_w hs hpl) ?_
  refine (ea_cons ha (ea_cons hb ea_nil hs2) hs) σ H _ E fun vs H1 e1 dvs => ?_
  obtain ⟨v, u, rfl, dv, du⟩ := dpA2 dvs
  obtain ⟨q, xs, rfl, hq, hxs⟩ := dp_tup dv
  obtain ⟨r, ys, rfl, hr, hys⟩ := dp_tup du
  have l1 := dpA_len hxs
  have l2 := dpA_len hys
  refine ⟨q, r, xs, ys, rfl, .inr ⟨hq, hr, k _ _ e1 fun H e => ?_⟩⟩
  have hq' := seqT_mono e hq
  have hr' := seqT_mono e hr
  have lz : (pairs es1 es2).length = min es1.length es2.length := by simp [pairs]
  refine ⟨fun i hi => ⟨xs, ys, xs[i]'(by omega), ys[i]'(by omega), hq', hr', by rw [List.getElem?_eq_getElem], by rw [List.getElem?_eq_getElem]⟩, ⟨xs, ys, hq', hr', by omega⟩, fun i z H' d hd y => ?_⟩
  obtain ⟨T, x', y', rfl, hT, rfl, h1, h2⟩ := y
  obtain ⟨x1, y1, hx1, hy1, rfl⟩ := pairs_get hd
  obtain ⟨v1, hv1, dv1⟩ := dpA_get hxs hx1
  obtain ⟨v2, hv2, dv2⟩ := dpA_get hys hy1
  have e2 := h1 xs hq'
  have e3 := h2 ys hr'
  rw [hv1] at e2
  rw [hv2] at e3
  cases e2
  cases e3
  refine ⟨Same.new hT, .tup (SqT.of upd_same) (.cons (dp_mono (e.trans (Same.new hT)) dv1) (.cons (dp_mono (e.trans (Same.new hT)) dv2) .nil))⟩
end
end DL
end
section
namespace DL
open PySem PySem.Spec PyProof.Rows L2
/-! ### data without lists: they stay whatever lists and dicts do -/
mutual
def imm : PyData → Bool
  | .list _ => false
  | .dict _ => false
  | .tuple ds => immL ds
  | _ => true
def immL : List PyData → Bool
  | [] => true
  | d :: ds => imm d && immL ds
end
theorem immL_iff : ∀ {ds : List PyData}, immL ds = true ↔ ∀ d ∈ ds, imm d = true
  | [] => by simp [immL]
  | d :: ds => by rw [immL, Bool.and_eq_true, immL_iff]; simp
theorem imm_tup {ds : List PyData} (h : ∀ d ∈ ds, imm d = true) : imm (.tuple ds) = true := by rw [imm]; exact immL_iff.mpr h
/-- tuples are kept -/
def TK (K : PySem.W.Frag) (H H' : Hp) : Prop := ∀ a xs, SqT K H a xs → SqT K H' a xs
theorem TK.of {K : PySem.W.Frag} {H H' : Hp} (e : Same H H') : TK K H H' := fun _ _ h => seqT_mono e h
theorem TK.trans {K : PySem.W.Frag} {H H1 H2 : Hp} (a : TK K H H1) (b : TK K H1 H2) : TK K H H2 := fun c xs h => b c xs (a c xs h)
theorem TK.refl {K : PySem.W.Frag} (H : Hp) : TK K H H := fun _ _ h => h
/-- what is no tuple may change -/
def NoTup : Option HO → Prop
  | some (.tup _) => False
  | some (.frz _ _) => False
  | _ => True
theorem TK.upd {K : PySem.W.Frag} {H H' : Hp} {p : Addr} {o : HO} (t : TK K H H') (h : NoTup (H' p)) : TK K H (upd H' p o) := fun a xs q => by
  rcases t a xs q with (q | ⟨ob, q⟩) | q
  · have ne : a ≠ p := fun z => by subst z; rw [q] at h; exact h
    exact .inl (.inl (by rw [upd_ne ne]; exact q))
  · have ne : a ≠ p := fun z => by subst z; rw [q] at h; exact h
    exact .inl (.inr ⟨ob, by rw [upd_ne ne]; exact q⟩)
  · exact .inr q
mutual
theorem dp_tk {K : PySem.W.Frag} {H H' : Hp} (t : TK K H H') : ∀ (d : PyData) {v : V}, imm d = true → Dp K H v d → Dp K H' v d
  | .none, _, _, .non => .non
  | .bool b, _, _, .bl _ => .bl b
  | .int i, _, _, .int _ => .int i
  | .str x, _, _, .str _ => .str x
  | .tuple ds, _, h, .tup q r => .tup (t _ _ q) (dpA_tk t ds (by simpa [imm] using h) r)
  | .list _, _, h, _ => by simp [imm] at h
  | .dict _, _, h, _ => by simp [imm] at h
theorem dpA_tk {K : PySem.W.Frag} {H H' : Hp} (t : TK K H H') : ∀ (ds : List PyData) {vs : List V}, immL ds = true → DpAll K H vs ds → DpAll K H' vs ds
  | [], _, _, .nil => .nil
  | d :: ds, _, h, .cons a b => .cons (dp_tk t d (by simp [immL] at h; exact h.1) a) (dpA_tk t ds (by simp [immL] at h; exact h.2) b)
end
def immS : Slot → Bool
  | .dat d => imm d
  | .val _ => true
  | .pr _ => false
def immR (ρ : Rho) : Prop := ∀ (i : Nat) (x : Slot), ρ[i]? = some (some x) → immS x = true
/-- behind a change of lists, dicts, objects: F' is what is known then -/
theorem EnvOk.tk {K : PySem.W.Frag} {F F' H H' : Hp} {σ : L2.St} {ρ : Rho} (h : EnvOk K F H σ ρ) (t : TK K H H') (m : immR ρ) (f : Same F' H') : EnvOk K F' H' σ ρ := ⟨h.1, fun i x hd => by
  obtain ⟨v, h1, h2⟩ := h.2.1 i x hd
  refine ⟨v, h1, ?_⟩
  cases x with
  | dat d => exact dp_tk t d (m i _ hd) h2
  | val u => exact h2
  | pr p => exact absurd (m i _ hd) (by simp [immS]), f⟩
/-! ### targets -/
theorem wipe_at : ∀ (σ : L2.St) (vs : List Nat) (i : Nat), (wipe σ vs)[i]? = if i ∈ vs then (if i < σ.length then some none else none) else σ[i]?
  | σ, [], i => by simp [wipe]
  | σ, v :: vs, i => by
    unfold wipe
    rw [List.getElem?_set, wipe_at σ vs i, wipe_length]
    by_cases h : v = i
    · subst h; simp
    · rw [if_neg h]
      by_cases m : i ∈ vs
      · simp [m]
      · simp [m, Ne.symm h]
theorem wipe_set {σ : L2.St} {vs : List Nat} {j : Nat} {o : Option V} (h : j ∈ vs) : wipe (σ.set j o) vs = wipe σ vs := by
  apply List.ext_getElem?
  intro i
  rw [wipe_at, wipe_at]
  by_cases m : i ∈ vs
  · simp [m]
  · have : j ≠ i := fun e => m (e ▸ h)
    simp [m, List.getElem?_set_ne this]
theorem wipe_wipe {σ : L2.St} {vs : List Nat} : wipe (wipe σ vs) vs = wipe σ vs := by
  apply List.ext_getElem?
  intro i
  rw [wipe_at, wipe_at, wipe_length]
  by_cases m : i ∈ vs
  · simp [m]
  · simp [m]
/-- the target g takes the data d: from ρ to ρ' by stores at the slots js -/
def TgOk (K : PySem.W.Frag) (g : TG) (js : List Nat) (ρ : Rho) (d : PyData) (ρ' : Rho) : Prop :=
  ∀ F σ H x (Q : L2.St → Hp → Prop), EnvOk K F H σ ρ → Dp K H x d → (∀ σ', EnvOk K F H σ' ρ' → (∀ vs, (∀ j ∈ js, j ∈ vs) → wipe σ' vs = wipe σ vs) → Q σ' H) → g x σ H Q
section
variable {K : PySem.W.Frag} {ρ : Rho} {d d1 d2 d3 : PyData} {j j1 j2 j3 : Nat}
theorem tg_name : TgOk K (gName j) [j] ρ d (ρ.set j (some (.dat d))) := fun F σ H x Q E dx k => k _ (E.set dx) fun vs h => wipe_set (h j (by simp))
theorem tg_two : TgOk K (gTup K 2 (gCons (gName j1) (gCons (gName j2) gNil))) [j1, j2] ρ (.tuple [d1, d2]) ((ρ.set j1 (some (.dat d1))).set j2 (some (.dat d2))) := fun F σ H x Q E dx k => by
  obtain ⟨a, xs, rfl, ha, hx⟩ := dp_tup dx
  obtain ⟨u, v, rfl, du, dv⟩ := dpA2 hx
  refine ⟨a, _, rfl, ha, rfl, u, [v], rfl, v, [], rfl, rfl, k _ ((E.set du).set dv) fun vs h => ?_⟩
  rw [wipe_set (h j2 (by simp)), wipe_set (h j1 (by simp))]
end
/-! ### comprehensions -/
abbrev BlkX (X : Cx) (scope : Scope) (s : Shared) (H : Hp) (C : Addr) (cl : List (Str × Addr)) (fp : List Addr) : Cx := X.blk s H scope (compEnvC scope cl C X.env) fp
section
variable {X : Cx} {F : Hp} {ρ : Rho} {e f tg iter elt : Expr} {ifs : List Expr} {pos p : Pos} {P : PyData → Prop} {x : Str} {ι : Type} {items : List ι} {enc res : ι → PyData} {pr : ι → Bool} {en : ι → Rho} {g : TG} {js : List Nat} {scope : Scope} {own : List (Str × Nat)}
theorem dpA_snoc {K : PySem.W.Frag} {H : Hp} {vs : List V} {ds : List PyData} {v : V} {d : PyData} (h : DpAll K H vs ds) (h1 : Dp K H v d) : DpAll K H (vs ++ [v]) (ds ++ [d]) := dpA_app h (.cons h1 .nil)
theorem tlc_main {tt : TT} {te : TE} (hi : IT X F ρ tg iter (items.map enc))
    (hjs : ∀ j ∈ js, j ∈ own.map (·.2)) (tgo : ∀ i ∈ items, TgOk X.K g js (wipeR ρ (own.map (·.2))) (enc i) (en i))
    (hte : ∀ i ∈ items, ∀ σ H (Q : Bool → Hp → Prop), EnvOk X.K F H σ (en i) → (∀ H', Same H H' → Q (pr i) H') → tt σ H Q)
    (hel : ∀ i ∈ items, pr i = true → ∀ σ H (Q : VK), EnvOk X.K F H σ (en i) → (∀ v H', Same H H' → Dp X.K H' v (res i) → Q v H') → te σ H Q)
    (hm : ∀ i ∈ items, imm (res i) = true) (hl : items.length ≤ 100000) {σ : L2.St} {H : Hp} {Q : VK} (E : EnvOk X.K F H σ ρ) (k : ∀ v H', Same H H' → Dp X.K H' v (.list ((items.filter pr).map res)) → Q v H') : tLc (wI X tg iter) g tt te (own.map (·.2)) σ H Q := by
  refine hi σ H _ E fun J H1 e1 w => fun D hD => ?_
  let n := items.length
  have hn : (items.map enc).length = n := by simp [n]
  let part := fun i : Nat => ((items.take i).filter pr).map res
  let Pv := fun (i : Nat) (H : Hp) => i ≤ n ∧ Same H1 H ∧ ∃ acc, H D = some (.lst acc) ∧ DpAll X.K H acc (part i)
  have himm : ∀ i, immL (part i) = true := fun i => immL_iff.mpr fun d hd => by
    obtain ⟨a, ha, rfl⟩ := List.mem_map.mp hd
    exact hm a (List.mem_of_mem_take (List.mem_filter.mp ha).1)
  refine ⟨fun i m H => m = n - i ∧ Pv i H, ⟨n, by simp, Nat.zero_le _, Same.new hD, [], upd_same, by simp [part]; exact .nil⟩, ?_⟩
  rintro i m H' ⟨rfl, hin, s1, acc, ha, hacc⟩
  obtain ⟨w1, w2, w3⟩ := w H' s1
  by_cases hlt : i < n
  · right
    refine ⟨w1 i (by omega), Pv (i + 1), fun H2 p => ⟨n - (i + 1), by omega, rfl, p⟩, fun x H2 y => ?_⟩
    have hit : items[i]? = some items[i] := List.getElem?_eq_getElem hlt
    have hmem : items[i] ∈ items := List.getElem_mem hlt
    obtain ⟨s2, dx⟩ := w3 i x H2 (enc items[i]) (by rw [List.getElem?_map, hit]; rfl) y
    have E2 := ((E.mono ((e1.trans s1).trans s2)).wipe (own.map (·.2)))
    refine tgo _ hmem F _ _ x _ E2 dx fun σ2 E3 hw => ⟨by rw [hw _ hjs, wipe_wipe], ?_⟩
    refine hte _ hmem σ2 H2 _ E3 fun H3 s3 => ?_
    have tk : items.take (i + 1) = items.take i ++ [items[i]] := by rw [List.take_succ, hit]; rfl
    cases hp : pr items[i] with
    | false =>
      rw [if_neg Bool.false_ne_true]
      refine ⟨hlt, (s1.trans s2).trans s3, acc, s3 _ _ (s2 _ _ ha), ?_⟩
      have e4 : part (i + 1) = part i := by simp only [part]; rw [tk, List.filter_append, List.filter_cons, hp]; simp
      rw [e4]
      exact dpA_mono (s2.trans s3) hacc
    | true =>
      rw [if_pos rfl]
      refine hel _ hmem hp σ2 H3 _ (E3.mono s3) fun v H4 s4 dv => ?_
      have l1 := dpA_len hacc
      have l2 : (part i).length ≤ i := by
        simp only [part]
        rw [List.length_map]
        exact Nat.le_trans (List.length_filter_le _ _) (by rw [List.length_take]; omega)
      have hD4 : H4 D = some (.lst acc) := s4 _ _ (s3 _ _ (s2 _ _ ha))
      refine ⟨acc, hD4, Nat.lt_of_lt_of_le (by omega : acc.length < 100001) (by decide), hlt, ?_, acc ++ [v], upd_same, ?_⟩
      · intro b o hb
        have nb : b ≠ D := ne_of_none hb hD
        rw [upd_ne nb]
        exact s4 _ _ (s3 _ _ (s2 _ _ (s1 _ _ hb)))
      · have e4 : part (i + 1) = part i ++ [res items[i]] := by simp only [part]; rw [tk, List.filter_append, List.filter_cons, hp]; simp
        rw [e4]
        have t : TK X.K H4 (upd H4 D (.lst (acc ++ [v]))) := (TK.refl H4).upd (by rw [hD4]; trivial)
        refine dpA_snoc (dpA_tk t _ (himm i) (dpA_mono ((s2.trans s3).trans s4) hacc)) (dp_tk t _ (hm _ hmem) dv)
  · left
    have e : i = n := by omega
    subst e
    rw [hn] at w2
    refine ⟨w2, k _ _ (e1.trans s1) (.lst (SqL.of ha) ?_)⟩
    have e5 : part n = (items.filter pr).map res := by simp only [part, n]; rw [List.take_length]
    rw [← e5]
    exact hacc
theorem lc_main {tt : TT} {te : TE} (hc : X.calm = true) (hN : X.N.Nodup) (hi : IT X F ρ tg iter (items.map enc)) (ok : BlkOk X.N X.env.scope scope own)
    (hg : ∀ s H C cl fp, PG (BlkX X scope s H C cl fp) tg g) (ht : ∀ s H C cl fp, PTs (BlkX X scope s H C cl fp) ifs tt) (he : ∀ s H C cl fp, PE (BlkX X scope s H C cl fp) elt te)
    (hjs : ∀ j ∈ js, j ∈ own.map (·.2)) (tgo : ∀ i ∈ items, TgOk X.K g js (wipeR ρ (own.map (·.2))) (enc i) (en i))
    (hte : ∀ i ∈ items, ∀ σ H (Q : Bool → Hp → Prop), EnvOk X.K F H σ (en i) → (∀ H', Same H H' → Q (pr i) H') → tt σ H Q)
    (hel : ∀ i ∈ items, pr i = true → ∀ σ H (Q : VK), EnvOk X.K F H σ (en i) → (∀ v H', Same H H' → Dp X.K H' v (res i) → Q v H') → te σ H Q)
    (hm : ∀ i ∈ items, imm (res i) = true) (hl : items.length ≤ 100000) (hs : ∀ x, foldedSetIterable iter X.env x = pure x) : ED X F ρ (.ListComp elt [⟨tg, iter, ifs, 0⟩] scope pos) (.list ((items.filter pr).map res)) := fun σ H Q E k =>
  ofE (pe_lc hc hN pi_w ok hg ht he hs) (tlc_main (σ := σ) (H := H) (Q := Q) hi hjs tgo hte hel hm hl E k)
/-- [elt for target in iter] -/
theorem ed_lc (hc : X.calm = true) (hN : X.N.Nodup) (hi : IT X F ρ tg iter (items.map enc)) (ok : BlkOk X.N X.env.scope scope own)
    (hg : ∀ s H C cl fp, PG (BlkX X scope s H C cl fp) tg g) (hjs : ∀ j ∈ js, j ∈ own.map (·.2)) (tgo : ∀ i ∈ items, TgOk X.K g js (wipeR ρ (own.map (·.2))) (enc i) (en i))
    (hel : ∀ s H C cl fp, ∀ i ∈ items, ED (BlkX X scope s H C cl fp) F (en i) elt (res i))
    (hm : ∀ i ∈ items, imm (res i) = true) (hl : items.length ≤ 100000) (hs : ∀ x, foldedSetIterable iter X.env x = pure x := by intro _; rfl) : ED X F ρ (.ListComp elt [⟨tg, iter, [], 0⟩] scope pos) (.list (items.map res)) :=
  ed_eq (lc_main (pr := fun _ => true) (te := fun σ H Q => ∀ s H0 C cl fp, wE (BlkX X scope s H0 C cl fp) elt σ H Q) hc hN hi ok hg (fun _ _ _ _ _ => pts_nil) (fun s H0 C cl fp => ⟨fun pins st σ H Q I h => h s H0 C cl fp pins st I⟩) hjs tgo
    (fun i hi σ H Q E k => k H (Same.refl H)) (fun i hi _ σ H Q E k s H0 C cl fp => hel s H0 C cl fp i hi σ H Q E k) hm hl hs) (by rw [List.filter_eq_self.mpr]; intros; rfl)
/-- [elt for target in iter if c] -/
theorem ed_lcIf {c : Expr} (hc : X.calm = true) (hN : X.N.Nodup) (hi : IT X F ρ tg iter (items.map enc)) (ok : BlkOk X.N X.env.scope scope own)
    (hg : ∀ s H C cl fp, PG (BlkX X scope s H C cl fp) tg g) (hjs : ∀ j ∈ js, j ∈ own.map (·.2)) (tgo : ∀ i ∈ items, TgOk X.K g js (wipeR ρ (own.map (·.2))) (enc i) (en i))
    (hte : ∀ s H C cl fp, ∀ i ∈ items, TD (BlkX X scope s H C cl fp) F (en i) c (pr i))
    (hel : ∀ s H C cl fp, ∀ i ∈ items, pr i = true → ED (BlkX X scope s H C cl fp) F (en i) elt (res i))
    (hm : ∀ i ∈ items, imm (res i) = true) (hl : items.length ≤ 100000) (hs : ∀ x, foldedSetIterable iter X.env x = pure x := by intro _; rfl) : ED X F ρ (.ListComp elt [⟨tg, iter, [c], 0⟩] scope pos) (.list ((items.filter pr).map res)) :=
  lc_main (te := fun σ H Q => ∀ s H0 C cl fp, wE (BlkX X scope s H0 C cl fp) elt σ H Q) (tt := fun σ H Q => ∀ s H0 C cl fp, wT (BlkX X scope s H0 C cl fp) c σ H Q) hc hN hi ok hg
    (fun s H0 C cl fp => pts_one ⟨fun pins st σ H Q I h => h s H0 C cl fp pins st I⟩) (fun s H0 C cl fp => ⟨fun pins st σ H Q I h => h s H0 C cl fp pins st I⟩) hjs tgo
    (fun i hi σ H Q E k s H0 C cl fp => hte s H0 C cl fp i hi σ H Q E k) (fun i hi hp σ H Q E k s H0 C cl fp => hel s H0 C cl fp i hi hp σ H Q E k) hm hl hs
end
end DL
end
section
namespace DL
open PySem PySem.Spec PyProof.Rows L2
/-! ### blocks of pure defs -/
section
variable {X : Cx} {D : Ends} {σ : L2.St} {H : Hp} {st : Stmt} {rest : List Stmt}
theorem wb_cons (h : wS X st { D with nx := fun σ H => wB X rest D σ H } σ H) : wB X (st :: rest) D σ H := ofB (pss_cons ps_w pb_w) h
theorem wb_nil (h : D.nx σ H) : wB X [] D σ H := ofB pss_nil h
end
/-- from ρ the block hands back data with P, or comes to its end where Kn stands; all that is tracked is kept -/
def BD (X : Cx) (F : Hp) (ρ : Rho) (sts : List Stmt) (Kn : Rho → Prop) (P : PyData → Prop) : Prop :=
  ∀ σ H (D : Ends), EnvOk X.K F H σ ρ → (∀ d v H', P d → Same H H' → Dp X.K H' v d → D.rt v H') → (∀ ρ' σ' H', Kn ρ' → Same H H' → EnvOk X.K F H' σ' ρ' → D.nx σ' H') → wB X sts D σ H
section
variable {X : Cx} {F : Hp} {ρ : Rho} {a b c e : Expr} {rest sts us : List Stmt} {Kn : Rho → Prop} {P P' : PyData → Prop} {pos p p2 : Pos} {d d1 d2 : PyData} {x y : Str}
theorem bd_nil (h : Kn ρ) : BD X F ρ [] Kn P := fun σ H D E _ k => wb_nil (k _ _ _ h (Same.refl H) E)
theorem BD.imp (h : BD X F ρ sts Kn P) {Kn' : Rho → Prop} (hk : ∀ ρ, Kn ρ → Kn' ρ) (hp : ∀ d, P d → P' d) : BD X F ρ sts Kn' P' := fun σ H D E k1 k2 => h σ H D E (fun d v H' q => k1 d v H' (hp _ q)) fun ρ' σ' H' q => k2 ρ' σ' H' (hk _ q)
/-- a statement that goes on -/
theorem bd_step {st : Stmt} (h : ∀ σ H (D : Ends), EnvOk X.K F H σ ρ → (∀ ρ' σ' H', BD X F ρ' rest Kn P → Same H H' → EnvOk X.K F H' σ' ρ' → D.nx σ' H') → wS X st D σ H) : BD X F ρ (st :: rest) Kn P := fun σ H D E k1 k2 => by
  refine wb_cons (h σ H _ E fun ρ' σ' H' B e E' => ?_)
  exact B σ' H' D E' (fun d v H2 q e2 => k1 d v H2 q (e.trans e2)) fun ρ2 σ2 H2 q e2 => k2 ρ2 σ2 H2 q (e.trans e2)
theorem bd_setR (i : Nat) (h : ER X F ρ e P') (k : ∀ d, P' d → BD X F (ρ.set i (some (.dat d))) rest Kn P) (hN : X.N.Nodup) (hi : X.N[i]? = some x := by rfl) (hx : Loc X.env.scope x := by first | exact Or.inl rfl | exact Or.inr rfl)
    (hs : swapsWith e (some (.Name x p)) pos.line X.env = pure false := by rfl) (hf : X.fn x = true ∨ X.env.scope.names.lookup x = some .local := by first | exact .inl rfl | exact .inr rfl) : BD X F ρ (.Assign [.Name x p] e pos :: rest) Kn P :=
  bd_step fun σ H D E q => ofS (ps_set hN hi hx pe_w hs hf) (h σ H _ E fun d v H' hp e1 dv => q _ _ _ (k d hp) e1 ((E.mono e1).set dv))
theorem bd_set (i : Nat) (h : ED X F ρ e d) (k : BD X F (ρ.set i (some (.dat d))) rest Kn P) (hN : X.N.Nodup) (hi : X.N[i]? = some x := by rfl) (hx : Loc X.env.scope x := by first | exact Or.inl rfl | exact Or.inr rfl)
    (hs : swapsWith e (some (.Name x p)) pos.line X.env = pure false := by rfl) (hf : X.fn x = true ∨ X.env.scope.names.lookup x = some .local := by first | exact .inl rfl | exact .inr rfl) : BD X F ρ (.Assign [.Name x p] e pos :: rest) Kn P :=
  bd_setR i (er_of h rfl) (fun d' q => q ▸ k) hN hi hx hs hf
/-- a, b = e1, e2 (two locals) -/
theorem bd_par (i j : Nat) {px py pt : Pos} {kt k2 : Nat} {pt2 : Pos} (ha : ED X F ρ a d1) (hb : ED X F ρ b d2) (k : BD X F ((ρ.set i (some (.dat d1))).set j (some (.dat d2))) rest Kn P) (hc : X.calm = true) (hN : X.N.Nodup) (hij : i ≠ j := by decide) (hi : X.N[i]? = some x := by rfl) (hj : X.N[j]? = some y := by rfl)
    (hx : X.env.scope.names.lookup x = some .local := by rfl) (hy : X.env.scope.names.lookup y = some .local := by rfl)
    (hw : swappedStores [.Tuple [.Name x px, .Name y py] kt pt] (.Tuple [a, b] k2 pt2) X.env = pure (some [x, y]) := by rfl)
    (hs : swapsWithSole [.Tuple [.Name x px, .Name y py] kt pt] (.Tuple [a, b] k2 pt2) pos.line X.env = pure false := by rfl)
    (hs1 : starEach [a, b] X.env = (false, eval a X.env) :: starEach [b] X.env := by rfl) (hs2 : starEach [b] X.env = (false, eval b X.env) :: starEach [] X.env := by rfl) : BD X F ρ (.Assign [.Tuple [.Name x px, .Name y py] kt pt] (.Tuple [a, b] k2 pt2) pos :: rest) Kn P :=
  bd_step fun σ H D E q => ofS (ps_par hc hN hi hj hij hx hy (pa_cons pe_w (pa_cons pe_w pa_nil hs2) hs1) hw hs) (ha σ H _ E fun u H1 e1 du => hb σ H1 _ (E.mono e1) fun v H2 e2 dv =>
    ⟨u, v, rfl, q _ _ _ k (e1.trans e2) ((((E.mono e1).mono e2).set (dp_mono e2 du)).set dv)⟩)
/-- targets = e, by the target's rule -/
theorem bd_asg {tg : Expr} {g : TG} {js : List Nat} {ρ' : Rho} (h : ED X F ρ e d) (hg : PG X tg g) (ht : TgOk X.K g js ρ d ρ') (k : BD X F ρ' rest Kn P)
    (hs : swapsWithSole [tg] e pos.line X.env = pure false := by rfl) (hw : swappedStores [tg] e X.env = pure none := by rfl)
    (h1 : (assignEach [tg] X.env).map (·.2) = [assign tg X.env] := by rfl) : BD X F ρ (.Assign [tg] e pos :: rest) Kn P :=
  bd_step fun σ H D E q => ofS (ps_asg pe_w hg hs hw h1) (h σ H _ E fun v H' e1 dv => ht F σ H' v _ (E.mono e1) dv fun σ' E' _ => q _ _ _ k e1 E')
theorem bd_retR (h : ER X F ρ e P) : BD X F ρ (.Return (some e) pos :: rest) Kn P := fun σ H D E k1 k2 => by
  refine wb_cons (ofS (ps_ret pe_w) ?_)
  exact h σ H _ E fun d v H' q e1 dv => k1 d v H' q e1 dv
theorem bd_ret (h : ED X F ρ e d) (q : P d) : BD X F ρ (.Return (some e) pos :: rest) Kn P := bd_retR (er_of h q)
theorem bd_if {t : Bool} (hc : TD X F ρ c t) (h1 : t = true → BD X F ρ sts (fun ρ' => BD X F ρ' rest Kn P) P) (h2 : t = false → BD X F ρ us (fun ρ' => BD X F ρ' rest Kn P) P) : BD X F ρ (.If c sts us pos :: rest) Kn P := fun σ H D E k1 k2 => by
  refine wb_cons (ofS (ps_if pt_w pb_w pb_w) ?_)
  refine hc σ H _ E fun H1 e1 => ?_
  have go : ∀ {ss : List Stmt}, BD X F ρ ss (fun ρ' => BD X F ρ' rest Kn P) P → wB X ss { D with nx := fun σ H => wB X rest D σ H } σ H1 := fun B =>
    B σ H1 _ (E.mono e1) (fun d v H2 q e2 => k1 d v H2 q (e1.trans e2)) fun ρ' σ' H' B' e2 E' => B' σ' H' D E' (fun d v H3 q e3 => k1 d v H3 q ((e1.trans e2).trans e3)) fun ρ3 σ3 H3 q e3 => k2 ρ3 σ3 H3 q ((e1.trans e2).trans e3)
  cases t with
  | true => rw [if_pos rfl]; exact go (h1 rfl)
  | false => rw [if_neg Bool.false_ne_true]; exact go (h2 rfl)
/-- if c: (never) -/
theorem bd_skip {t : Bool} (hc : TD X F ρ c t) (ht : t = false) (h2 : BD X F ρ rest Kn P) : BD X F ρ (.If c sts [] pos :: rest) Kn P := bd_if hc (fun h => by rw [ht] at h; cases h) fun _ => bd_nil h2
theorem bd_expr (h : ER X F ρ e P') (k : BD X F ρ rest Kn P) (hs : swapsWith e none pos.line X.env = pure false := by rfl) : BD X F ρ (.Expr e pos :: rest) Kn P :=
  bd_step fun σ H D E q => ofS (ps_expr pe_w hs) (h σ H _ E fun d v H' _ e1 _ => q _ _ _ k e1 (E.mono e1))
theorem bd_doc {j : Nat} {z : Str} (k : BD X F ρ rest Kn P) : BD X F ρ (.Expr (.Constant (.str z) j p) pos :: rest) Kn P :=
  bd_step fun σ H D E q => ofS ps_doc (q _ _ _ k (Same.refl H) E)
/-- x op= e of ints -/
theorem bd_aug (i : Nat) {op : Operator} {C : Int → Int → Prop} {g : Int → Int → Int} {m n : Int} (ho : OpR X (inplaceOp op) (rI C fun i j => .int (g i j))) (hx : ρ[i]? = some (some (.dat (.int m)))) (h : ED X F ρ e (.int n)) (hC : C m n) (k : BD X F (ρ.set i (some (.dat (.int (g m n))))) rest Kn P)
    (hN : X.N.Nodup) (hi : X.N[i]? = some x := by rfl) (hl : Loc X.env.scope x := by first | exact Or.inl rfl | exact Or.inr rfl) (hf : X.fn x = true ∨ X.env.scope.names.lookup x = some .local := by first | exact .inl rfl | exact .inr rfl) : BD X F ρ (.AugAssign (.Name x p) op e pos :: rest) Kn P :=
  bd_step fun σ H D E q => by
    refine ofS (ps_aug hN hi hl pe_w ho hf) ?_
    obtain ⟨v, hv, dv⟩ := E.at hx
    refine ⟨v, hv, h σ H _ E fun u H1 e1 du => ⟨m, n, dp_int dv, dp_int du, hC, q _ _ _ k e1 ((E.mono e1).set (.int _))⟩⟩
/-- x += e of ints -/
theorem bd_inc (i : Nat) {m n : Int} (hx : ρ[i]? = some (some (.dat (.int m)))) (h : ED X F ρ e (.int n)) (k : BD X F (ρ.set i (some (.dat (.int (m + n))))) rest Kn P)
    (hN : X.N.Nodup) (hi : X.N[i]? = some x := by rfl) (hl : Loc X.env.scope x := by first | exact Or.inl rfl | exact Or.inr rfl) (hf : X.fn x = true ∨ X.env.scope.names.lookup x = some .local := by first | exact .inl rfl | exact .inr rfl) : BD X F ρ (.AugAssign (.Name x p) .Add e pos :: rest) Kn P :=
  bd_step fun σ H D E q => by
    refine ofS (ps_aug hN hi hl pe_w iop_add hf) ?_
    obtain ⟨v, hv, dv⟩ := E.at hx
    refine ⟨v, hv, h σ H _ E fun u H1 e1 du => ⟨m, n, dp_int dv, dp_int du, q _ _ _ k e1 ((E.mono e1).set (.int _))⟩⟩
/-- for target in iter, over data: Pv by the turn -/
theorem bd_for {ι : Type} {items : List ι} {enc : ι → PyData} {tg iter : Expr} {g : TG} {js : List Nat} (en : ι → Rho → Rho) (Pv : Nat → Rho → Prop) (hc : X.calm = true) (hp : PassesOwn (model X.prog X.w) X.A X.env X.xe) (hi : IT X F ρ tg iter (items.map enc)) (hg : PG X tg g)
    (h0 : Pv 0 ρ) (tgo : ∀ i ∈ items, ∀ ρ', TgOk X.K g js ρ' (enc i) (en i ρ'))
    (hb : ∀ (i : Nat) (a : ι) ρ', items[i]? = some a → Pv i ρ' → BD X F (en a ρ') sts (Pv (i + 1)) P) (hd : ∀ ρ', Pv items.length ρ' → BD X F ρ' rest Kn P)
    (hs : ∀ x, foldedSetIterable iter X.env x = pure x := by intro _; rfl) : BD X F ρ (.For tg iter sts [] pos :: rest) Kn P := fun σ H D E k1 k2 => by
  refine wb_cons (ofS (ps_for hp hc pi_w hg pb_w hs) ?_)
  refine hi σ H _ E fun J H1 e1 w => ?_
  let n := items.length
  have hn : (items.map enc).length = n := by simp [n]
  refine ⟨fun i m σ' H' => m = n - i ∧ i ≤ n ∧ Same H1 H' ∧ ∃ ρ', EnvOk X.K F H' σ' ρ' ∧ Pv i ρ', ⟨n, by simp, Nat.zero_le _, Same.refl _, ρ, E.mono e1, h0⟩, ?_⟩
  rintro i m σ' H' ⟨rfl, hin, s1, ρ', E', pv⟩
  obtain ⟨w1, w2, w3⟩ := w H' s1
  by_cases hlt : i < n
  · right
    refine ⟨w1 i (by omega), fun σ' H' => i + 1 ≤ n ∧ Same H1 H' ∧ ∃ ρ', EnvOk X.K F H' σ' ρ' ∧ Pv (i + 1) ρ', fun σ' H' q => ⟨n - (i + 1), by omega, rfl, q⟩, fun x H2 y => ?_⟩
    have hit : items[i]? = some items[i] := List.getElem?_eq_getElem hlt
    have hmem : items[i] ∈ items := List.getElem_mem hlt
    obtain ⟨s2, dx⟩ := w3 i x H2 (enc items[i]) (by rw [List.getElem?_map, hit]; rfl) y
    refine tgo _ hmem ρ' F σ' H2 x _ (E'.mono s2) dx fun σ2 E3 _ => ?_
    refine hb i _ ρ' hit pv σ2 H2 _ E3 (fun d v H3 q e3 => k1 d v H3 q (((e1.trans s1).trans s2).trans e3)) fun ρ3 σ3 H3 q e3 E4 => ⟨hlt, (s1.trans s2).trans e3, ρ3, E4, q⟩
  · left
    have e : i = n := by omega
    subst e
    rw [hn] at w2
    exact ⟨w2, hd ρ' pv σ' H' D E' (fun d v H3 q e3 => k1 d v H3 q ((e1.trans s1).trans e3)) fun ρ3 σ3 H3 q e3 => k2 ρ3 σ3 H3 q ((e1.trans s1).trans e3)⟩
/-- while: W by its measure -/
theorem bd_while {sts : List Stmt} (W : Nat → Rho → Prop) (m0 : Nat) (h0 : W m0 ρ) (hp : PassesOwn (model X.prog X.w) X.A X.env X.xe)
    (hs : ∀ m ρ', W m ρ' → ∃ t, TD X F ρ' c t ∧ (t = true → BD X F ρ' sts (fun ρ2 => ∃ m', m' < m ∧ W m' ρ2) P) ∧ (t = false → BD X F ρ' rest Kn P)) : BD X F ρ (.While c sts [] pos :: rest) Kn P := fun σ H D E k1 k2 => by
  refine wb_cons (ofS (ps_while hp pt_w pb_w) ?_)
  refine ⟨fun m σ' H' => Same H H' ∧ ∃ ρ', EnvOk X.K F H' σ' ρ' ∧ W m ρ', ⟨m0, Same.refl H, ρ, E, h0⟩, ?_⟩
  rintro m σ' H' ⟨s1, ρ', E', w⟩
  obtain ⟨t, ht, hb, hd⟩ := hs m ρ' w
  refine ht σ' H' _ E' fun H2 s2 => ?_
  cases t with
  | true =>
    rw [if_pos rfl]
    refine ⟨fun σ3 H3 => Same H H3 ∧ ∃ ρ3 m', m' < m ∧ EnvOk X.K F H3 σ3 ρ3 ∧ W m' ρ3, fun σ3 H3 ⟨s3, ρ3, m', hm, E3, w3⟩ => ⟨m', hm, s3, ρ3, E3, w3⟩, ?_⟩
    exact hb rfl σ' H2 _ (E'.mono s2) (fun d v H3 q e3 => k1 d v H3 q ((s1.trans s2).trans e3)) fun ρ3 σ3 H3 ⟨m', hm, w3⟩ e3 E3 => ⟨(s1.trans s2).trans e3, ρ3, m', hm, E3, w3⟩
  | false =>
    rw [if_neg Bool.false_ne_true]
    exact hd rfl σ' H2 D (E'.mono s2) (fun d v H3 q e3 => k1 d v H3 q ((s1.trans s2).trans e3)) fun ρ3 σ3 H3 q e3 => k2 ρ3 σ3 H3 q ((s1.trans s2).trans e3)
end
/-! ### a def by its body -/
def rho0 (N : List Str) (ds : List PyData) : Rho := ds.map (fun d => some (.dat d)) ++ List.replicate (N.length - ds.length) none
/-- nothing is known -/
abbrev noF : Hp := fun _ => none
theorem env_start {K : PySem.W.Frag} {H : Hp} {N : List Str} {vs : List V} {ds : List PyData} (h : DpAll K H vs ds) : EnvOk K noF H (L2.start N vs) (rho0 N ds) := by
  have l := dpA_len h
  refine ⟨by simp [rho0, L2.start, l], fun i d hd => ?_, fun _ _ z => nomatch z⟩
  unfold rho0 at hd
  by_cases hi : i < ds.length
  · rw [List.getElem?_append_left (by simpa using hi), List.getElem?_map, Option.map_eq_some_iff] at hd
    obtain ⟨d', h1, h2⟩ := hd
    cases h2
    obtain ⟨v, hv, dv⟩ := dpA_get h h1
    refine ⟨v, ?_, dv⟩
    unfold L2.start
    rw [List.getElem?_append_left (by simp; omega), List.getElem?_map, hv]
    rfl
  · rw [List.getElem?_append_right (by simpa using hi), List.getElem?_replicate] at hd
    split at hd <;> simp at hd
abbrev cxD (P : Program) (w : World) (K : PySem.W.Frag) (mg : Str → Option Value) (base : Heap) (N : List Str) (qual : Str) (scope : Scope) (f : Addr) (cd : Value) (A : Around) (outer : List Env) (s : Shared) (H : Hp) (E : XK) : Cx := (cxOf CX0 P w K mg base N qual scope f cd A outer s H E).nox
theorem fnR {P : Program} {w : World} {K : PySem.W.Frag} {mg : Str → Option Value} {base : Heap} {x qual : Str} {params : Arguments} {body : List Stmt} {scope : Scope} {f : Addr} {fd : FuncData} {N ps : List Str} {k : Nat} {R : RelF} (F : FunD K x qual params body scope [] [] f fd) (S : FnScope N ps scope)
    (len : ∀ ds P, R ds P → ds.length = ps.length)
    (hb : ∀ (cd : Value) (A : Around) (outer : List Env) (s : Shared) (H : Hp) (E : XK) ds P', Room k (A.deeper (envOfC qual scope s.heap.objs.size f cd)) → R ds P' → BD (cxD P w K mg base N qual scope f cd A outer s H E) noF (rho0 N ds) body (fun _ => P' .none) P') :
    FnOk P w K mg base CX0 (k + 1) f fd ps (spR K R) := by
  refine F.ok S (fun vs H Q E h => ?_) (fun cdv A outer s H vs Q E hr h => ?_)
  · obtain ⟨ds, P', h1, h2, _⟩ := h
    rw [dpA_len h1, len ds P' h2]
  · obtain ⟨ds, P', h1, h2, k⟩ := h
    refine ⟨wB (cxD P w K mg base N qual scope f cdv A outer s H E) body, PSs.nox pb_w, ?_⟩
    exact hb cdv A outer s H E ds P' hr h2 _ H _ (env_start h1) (fun d v H' q e dv => k d v H' q e dv) fun ρ' σ' H' q e _ => k .none _ H' q e .non
theorem calR {P : Program} {w : World} {K : PySem.W.Frag} {mg : Str → Option Value} {base : Heap} {x : Str} {params : Arguments} {body : List Stmt} {scope : Scope} {f : Addr} {fd : FuncData} {N ps : List Str} {k : Nat} {R : RelF} (F : FunD K x x params body scope [] [] f fd) (hm : mg x = some (.ref f)) (S : FnScope N ps scope)
    (bd : ∀ (kV doc pm : Value) (an : Option Addr) (cdv ct : Value) (us : List Value), us.length = ps.length → bindArgs (PySem.W.fnOf x x params body scope .none kV doc pm an cdv ct) ⟨us, []⟩ = pure (ps.zip us))
    (len : ∀ ds P, R ds P → ds.length = ps.length)
    (hb : ∀ (cd : Value) (A : Around) (outer : List Env) (s : Shared) (H : Hp) (E : XK) ds P', Room k (A.deeper (envOfC x scope s.heap.objs.size f cd)) → R ds P' → BD (cxD P w K mg base N x scope f cd A outer s H E) noF (rho0 N ds) body (fun _ => P' .none) P') :
    Cal P w K mg base (k + 1) x (spR K R) := ⟨f, fd, ps, fnR F S len hb, hm, F.kp, F.bindsN bd⟩
end DL
end
section
namespace DL
open PySem PySem.Spec PyProof.Rows L2
/-! ### vectors and bases as data -/
abbrev dV (v : List Int) : PyData := .tuple (v.map .int)
abbrev dM (B : List (List Int)) : PyData := .tuple (B.map fun v => dV v)
abbrev dLV (v : List Int) : PyData := .list (v.map .int)
abbrev dLM (B : List (List Int)) : PyData := .list (B.map fun v => dV v)
theorem imm_dV (v : List Int) : imm (dV v) = true := imm_tup fun d hd => by
  obtain ⟨a, _, rfl⟩ := List.mem_map.mp hd
  rfl
theorem imm_dM (B : List (List Int)) : imm (dM B) = true := imm_tup fun d hd => by
  obtain ⟨a, _, rfl⟩ := List.mem_map.mp hd
  exact imm_dV a
section
variable {X : Cx} {F : Hp} {ρ : Rho} {a b c e f tg : Expr} {es : List Expr} {pos p2 p : Pos} {d d1 d2 d3 : PyData} {ds : List PyData} {P : PyData → Prop} {x : Str} {ι κ : Type} {items : List ι}
theorem ed_allC {g : ι → Bool} (hm : X.mg "all" = none) (hc : X.calm = true) (h : ED X F ρ e (.list (items.map fun i => .bool (g i)))) (hg : Gl X "all" := by rfl) (he : starEach [e] X.env = (false, eval e X.env) :: starEach [] X.env := by rfl) : ED X F ρ (.Call (.Name "all" p) [e] [] pos) (.bool (items.all g)) :=
  ed_eq (ed_all (bs := items.map g) hm hc (ed_eq h (by rw [List.map_map]; rfl)) hg he) (by rw [List.all_map]; rfl)
theorem ed_sumC {g : ι → Int} (hm : X.mg "sum" = none) (hc : X.calm = true) (h : ED X F ρ e (.list (items.map fun i => .int (g i)))) (hg : Gl X "sum" := by rfl) (he : starEach [e] X.env = (false, eval e X.env) :: starEach [] X.env := by rfl) : ED X F ρ (.Call (.Name "sum" p) [e] [] pos) (.int (items.map g).sum) :=
  ed_sum (ns := items.map g) hm hc (ed_eq h (by rw [List.map_map]; rfl)) hg he
theorem it_rng1 {j : Nat} (hm : X.mg "range" = none) (h : ED X F ρ a (.int (j : Int))) (hj : j ≤ 1000000) (hg : Gl X "range" := by rfl) (hs : starEach [a] X.env = [(false, eval a X.env)] := by rfl) : IT X F ρ tg (.Call (.Name "range" p) [a] [] pos) ((List.range j).map fun i => .int (i : Nat)) := fun σ H R E k => by
  have q := it_range1 (p := p) (pos := pos) (tg := tg) hm h (by omega) hg hs
  unfold intsL at q
  have e : ((j : Int)).toNat = j := by simp
  simp only [e, Int.zero_add] at q
  exact q σ H R E k
theorem zip_pairs {f1 : ι → PyData} {f2 : κ → PyData} : ∀ (xs : List ι) (ys : List κ), pairs (xs.map f1) (ys.map f2) = (xs.zip ys).map fun q => .tuple [f1 q.1, f2 q.2]
  | [], _ => rfl
  | _ :: _, [] => rfl
  | x :: xs, y :: ys => by
    show _ :: pairs (xs.map f1) (ys.map f2) = _
    rw [zip_pairs xs ys]
    rfl
theorem it_zTT {elts : List Expr} {kk : Nat} {tpos : Pos} {f1 : ι → PyData} {f2 : κ → PyData} {xs : List ι} {ys : List κ} (hm : X.mg "zip" = none) (ha : ED X F ρ a (.tuple (xs.map f1))) (hb : ED X F ρ b (.tuple (ys.map f2))) (hg : Gl X "zip" := by rfl) (hs : starEach [a, b] X.env = (false, eval a X.env) :: starEach [b] X.env := by rfl)
    (hs2 : starEach [b] X.env = (false, eval b X.env) :: starEach [] X.env := by rfl) (hpl : (backTo pos (starEach [b] X.env)).any (·.1) = false := by rfl) : IT X F ρ (.Tuple elts kk tpos) (.Call (.Name "zip" p) [a, b] [] pos) ((xs.zip ys).map fun q => .tuple [f1 q.1, f2 q.2]) :=
  zip_pairs (f1 := f1) (f2 := f2) xs ys ▸ it_zipT hm ha hb hg hs hs2 hpl
end
theorem kit_int_int : kitB "int" "int" = some true := by decide +kernel
theorem kit_int_bool : kitB "int" "bool" = some false := by decide +kernel
theorem kit_bool_int : kitB "bool" "int" = some true := by decide +kernel
theorem kit_bool_bool : kitB "bool" "bool" = some true := by decide +kernel
theorem kit_tuple_tuple : kitB "tuple" "tuple" = some true := by decide +kernel
theorem kit_list_tuple : kitB "list" "tuple" = some false := by decide +kernel
theorem kit_int_tuple : kitB "int" "tuple" = some false := by decide +kernel
end DL
end
section
namespace DL
open PySem PySem.Spec PyProof.Rows L2 WM
theorem vget {v : List Int} {j : Nat} (h : j < v.length) : (v.map PyData.int)[j]? = some (.int (ix v j)) := by
  rw [List.getElem?_map, List.getElem?_eq_getElem h]
  unfold ix
  rw [List.getD_eq_getElem?_getD, List.getElem?_eq_getElem h]
  rfl
theorem mget {B : List (List Int)} {j : Nat} (h : j < B.length) : (B.map fun v => dV v)[j]? = some (dV (B.getD j [])) := by
  rw [List.getElem?_map, List.getElem?_eq_getElem h, List.getD_eq_getElem?_getD, List.getElem?_eq_getElem h]
  rfl
section
variable {X : Cx} {F : Hp} {ρ : Rho} {a b c e f tg : Expr} {es : List Expr} {pos p2 p : Pos} {d d1 d2 d3 : PyData} {ds : List PyData} {x : Str}
theorem ed_ixV {v : List Int} {j : Nat} (ha : ED X F ρ a (dV v)) (hb : ED X F ρ b (.int (j : Int))) (h : j < v.length) (hs : PlainIx b := by intro _ _; rfl) : ED X F ρ (.Subscript a b pos) (.int (ix v j)) := ed_ixT ha hb (vget h) hs
theorem ed_ixM {B : List (List Int)} {j : Nat} (ha : ED X F ρ a (dM B)) (hb : ED X F ρ b (.int (j : Int))) (h : j < B.length) (hs : PlainIx b := by intro _ _; rfl) : ED X F ρ (.Subscript a b pos) (dV (B.getD j [])) := ed_ixT ha hb (mget h) hs
/-- n & 1 -/
theorem ed_odd {i : Int} {j : Nat} {p3 : Pos} (ha : ED X F ρ a (.int i)) (h0 : 0 ≤ i) : ED X F ρ (.BinOp a .BitAnd (.Constant (.int 1) j p3) pos) (.int (i % 2)) :=
  ed_two (pe_op op_odd pe_w pe_w) ha ed_int fun x y H Q hx hy k => ⟨i.toNat, by rw [dp_int hx, Int.toNat_of_nonneg h0], dp_int hy, by
    have e : ((i.toNat % 2 : Nat) : Int) = i % 2 := by omega
    rw [e]; exact k _ _ (Same.refl H) (.int _)⟩
/-- i & (2 ^ k - 1) -/
theorem ed_andM {i j : Int} (k : Nat) (ha : ED X F ρ a (.int i)) (hb : ED X F ρ b (.int j)) (h : j = 2 ^ k - 1) : ED X F ρ (.BinOp a .BitAnd b pos) (.int (i % 2 ^ k)) :=
  ed_two (pe_op op_andM pe_w pe_w) ha hb fun x y H Q hx hy q => ⟨i, k, dp_int hx, by rw [dp_int hy, h], q _ _ (Same.refl H) (.int _)⟩
end
/-! ### words and vectors, as the program reckons them -/
def sumV (w : Nat) (a b : List Int) : List Int := (a.zip b).map fun q => (q.1 + q.2) % 2 ^ w
def mulV (w : Nat) (v : List Int) (f : Int) : List Int := v.map fun x => f * x % 2 ^ w
def lvP (x : Int) (k : Nat) : Prop := (2 : Int) ^ k ∣ x ∧ ¬ (2 : Int) ^ (k + 1) ∣ x
open Classical in
noncomputable def lv (x : Int) : Nat := if h : ∃ k, lvP x k then Classical.choose h else 0
theorem lvP_inj {x : Int} {k j : Nat} (h : lvP x k) (h' : lvP x j) : k = j := by
  rcases Nat.lt_trichotomy k j with l | l | l
  · exact (h.2 (Int.dvd_trans (pow_dvd (by omega)) h'.1)).elim
  · exact l
  · exact (h'.2 (Int.dvd_trans (pow_dvd (by omega)) h.1)).elim
theorem lv_eq {x : Int} {k : Nat} (h : lvP x k) : lv x = k := by
  unfold lv
  rw [dif_pos ⟨k, h⟩]
  exact lvP_inj (Classical.choose_spec (⟨k, h⟩ : ∃ k, lvP x k)) h
theorem lv_ex {x : Int} {w : Nat} (h0 : 0 < x) (h1 : x < 2 ^ w) : lvP x (lv x) ∧ lv x < w := by
  rcases two_part w x with ⟨j, e⟩ | ⟨t, a, ht, e, ha⟩
  · rcases Int.lt_trichotomy j 0 with q | q | q
    · have := pow_pos2 w
      have : (2 : Int) ^ w * j ≤ 2 ^ w * 0 := Int.mul_le_mul_of_nonneg_left (by omega) (by omega)
      omega
    · subst q; omega
    · have := pow_pos2 w
      have : (2 : Int) ^ w * 1 ≤ 2 ^ w * j := Int.mul_le_mul_of_nonneg_left (by omega) (by omega)
      omega
  · have q : lvP x t := ⟨⟨a, e⟩, fun ⟨z, ez⟩ => by
      rw [e, Int.pow_succ] at ez
      have hp := pow_pos2 t
      have : a = 2 * z := Int.eq_of_mul_eq_mul_left (Int.ne_of_gt hp) (by rw [ez]; grind)
      omega⟩
    rw [lv_eq q]
    exact ⟨q, ht⟩
/-- the odd part of a word that is not 0, its inverse -/
theorem odd_part {x : Int} {w : Nat} (h0 : 0 < x) (h1 : x < 2 ^ w) : (x / 2 ^ lv x) % 2 = 1 ∧ x = 2 ^ lv x * (x / 2 ^ lv x) ∧ 0 < x / 2 ^ lv x ∧ x / 2 ^ lv x < 2 ^ w := by
  obtain ⟨⟨⟨z, e⟩, hn⟩, _⟩ := lv_ex h0 h1
  generalize lv x = k at *
  have hp := pow_pos2 k
  have e2 : x / 2 ^ k = z := by rw [e]; exact Int.mul_ediv_cancel_left _ (Int.ne_of_gt hp)
  rw [e2]
  refine ⟨?_, e, ?_, ?_⟩
  · rcases Int.emod_two_eq z with q | q
    · exfalso
      apply hn
      refine ⟨z / 2, ?_⟩
      rw [Int.pow_succ, e]
      have : z = 2 * (z / 2) := by omega
      generalize z / 2 = y at *
      rw [this]; grind
    · exact q
  · rcases Int.lt_trichotomy z 0 with q | q | q
    · have : (2 : Int) ^ k * z ≤ 2 ^ k * 0 := Int.mul_le_mul_of_nonneg_left (by omega) (by omega)
      omega
    · subst q; omega
    · exact q
  · have : z ≤ 2 ^ k * z := by
      rcases Int.lt_trichotomy z 0 with q | q | q
      · have : (2 : Int) ^ k * z ≤ 2 ^ k * 0 := Int.mul_le_mul_of_nonneg_left (by omega) (by omega)
        omega
      · subst q; simp
      · have : 1 * z ≤ 2 ^ k * z := Int.mul_le_mul_of_nonneg_right (by omega) (by omega)
        omega
    omega
def invP (w : Nat) (x y : Int) : Prop := 0 ≤ y ∧ y < 2 ^ w ∧ (2 : Int) ^ w ∣ x * y - 1
open Classical in
noncomputable def inv (w : Nat) (x : Int) : Int := if h : ∃ y, invP w x y then Classical.choose h else 0
theorem invP_inj {w : Nat} {x y z : Int} (h : invP w x y) (h' : invP w x z) : y = z := by
  obtain ⟨a1, a2, j, a3⟩ := h
  obtain ⟨b1, b2, k, b3⟩ := h'
  -- y - z = y (x z - ..) ..
  have q : (2 : Int) ^ w ∣ y - z := ⟨j * z * 1 * (-1) * (-1) * 0 + (y * (-k) + z * j), by
    have e1 : x * y = 1 + 2 ^ w * j := by omega
    have e2 : x * z = 1 + 2 ^ w * k := by omega
    have : y * (x * z) = z * (x * y) := by grind
    rw [e1, e2] at this
    grind⟩
  obtain ⟨t, e⟩ := q
  have hp := pow_pos2 w
  rcases Int.lt_trichotomy t 0 with q | q | q
  · have : (2 : Int) ^ w * t ≤ 2 ^ w * (-1) := Int.mul_le_mul_of_nonneg_left (by omega) (by omega)
    omega
  · subst q; omega
  · have : (2 : Int) ^ w * 1 ≤ 2 ^ w * t := Int.mul_le_mul_of_nonneg_left (by omega) (by omega)
    omega
theorem inv_eq {w : Nat} {x y : Int} (h : invP w x y) : inv w x = y := by
  unfold inv
  rw [dif_pos ⟨y, h⟩]
  exact invP_inj (Classical.choose_spec (⟨y, h⟩ : ∃ y, invP w x y)) h
theorem inv_ok {w : Nat} {x : Int} (h : x % 2 = 1) : invP w x (inv w x) := by
  obtain ⟨b, hb⟩ := odd_inv x h w
  have q : invP w x (b % 2 ^ w) := by
    have hp := pow_pos2 w
    refine ⟨Int.emod_nonneg _ (Int.ne_of_gt hp), Int.emod_lt_of_pos _ hp, ?_⟩
    have e : b % 2 ^ w = b - 2 ^ w * (b / 2 ^ w) := by rw [Int.emod_def]
    rw [e]
    exact dv2 1 (-(x * (b / 2 ^ w))) hb (Int.dvd_refl _) (by grind)
  rw [inv_eq q]
  exact q
/-- the first column, of so many, in which a vector is not 0 -/
def pcol (v : List Int) (many : Nat) : Option Nat := (List.range many).find? fun c => ix v c != 0
theorem pcol_some {v : List Int} {many c : Nat} : pcol v many = some c ↔ c < many ∧ ix v c ≠ 0 ∧ ∀ i, i < c → ix v i = 0 := by
  unfold pcol
  rw [List.find?_range_eq_some]
  constructor
  · rintro ⟨h1, h2, h3⟩
    refine ⟨by simpa using h2, by simpa using h1, fun i hi => ?_⟩
    have := h3 i hi
    simpa using this
  · rintro ⟨h1, h2, h3⟩
    exact ⟨by simpa using h2, by simpa using h1, fun i hi => by simp [h3 i hi]⟩
theorem pcol_none {v : List Int} {many : Nat} : pcol v many = none ↔ ∀ i, i < many → ix v i = 0 := by
  unfold pcol
  rw [List.find?_range_eq_none]
  simp
def optI : Option Nat → PyData
  | some c => .int (c : Nat)
  | none => .none
noncomputable def pivV (w : Nat) (v : List Int) (c : Nat) : List Int := mulV w v (inv w (ix v c / 2 ^ lv (ix v c)))
def redV (w : Nat) (v : List Int) (c : Nat) (r : List Int) : List Int := if 0 < ix v c / ix r c then sumV w v (mulV w r (-(ix v c / ix r c))) else v
/-! ### validity -/
theorem isVec_mul {w n : Nat} {v : List Int} {f : Int} (h : v.length = n) : IsVec w n (mulV w v f) := ⟨by simp [mulV, h], fun x hx => by
  obtain ⟨y, _, rfl⟩ := List.mem_map.mp hx
  have hp := pow_pos2 w
  exact ⟨Int.emod_nonneg _ (Int.ne_of_gt hp), Int.emod_lt_of_pos _ hp⟩⟩
theorem isVec_sum {w n : Nat} {a b : List Int} (h : a.length = n) (h' : b.length = n) : IsVec w n (sumV w a b) := ⟨by simp [sumV, h, h'], fun x hx => by
  obtain ⟨y, _, rfl⟩ := List.mem_map.mp hx
  have hp := pow_pos2 w
  exact ⟨Int.emod_nonneg _ (Int.ne_of_gt hp), Int.emod_lt_of_pos _ hp⟩⟩
theorem isVec_red {w n : Nat} {a b : List Int} {c : Nat} (h : IsVec w n a) (h' : b.length = n) : IsVec w n (redV w a c b) := by
  unfold redV
  split
  · exact isVec_sum h.1 (isVec_mul h').1
  · exact h
theorem ix_mul {w : Nat} {v : List Int} {f : Int} {i : Nat} (h : i < v.length) : ix (mulV w v f) i = f * ix v i % 2 ^ w := by
  unfold ix mulV
  simp [List.getD_eq_getElem?_getD, List.getElem?_eq_getElem h]
theorem ix_sum {w : Nat} {a b : List Int} {i : Nat} (h : i < a.length) (h' : i < b.length) : ix (sumV w a b) i = (ix a i + ix b i) % 2 ^ w := by
  unfold ix sumV
  have : i < (a.zip b).length := by simp; omega
  simp [List.getD_eq_getElem?_getD, List.getElem?_eq_getElem h, List.getElem?_eq_getElem h', List.getElem?_eq_getElem this, List.getElem?_zip_eq_some]
end DL
end
section
namespace DL
open PySem PySem.Spec PyProof.Rows L2
/-! ### values as they are: objects' fields, dicts -/
def EV (X : Cx) (F : Hp) (ρ : Rho) (e : Expr) (v : V) : Prop := ∀ σ H Q, EnvOk X.K F H σ ρ → (∀ H', Same H H' → Q v H') → wE X e σ H Q
section
variable {X : Cx} {F : Hp} {ρ : Rho} {a b c e f o : Expr} {es : List Expr} {pos p2 p : Pos} {d d1 d2 d3 : PyData} {ds : List PyData} {x : Str} {v u : V}
theorem ed_ev (h : EV X F ρ e v) (q : Dp X.K F v d) : ED X F ρ e d := fun σ H Q E k => h σ H Q E fun H' e1 => k v H' e1 (dp_mono (E.2.2.trans e1) q)
theorem ed_evI {i : Int} (h : EV X F ρ e (.int i)) : ED X F ρ e (.int i) := ed_ev h (.int i)
theorem ev_var (i : Nat) (hd : ρ[i]? = some (some (.val v))) (hN : X.N[i]? = some x := by rfl) (hv : Vis X.env.scope x := by first | exact Or.inl rfl | exact Or.inr (Or.inl rfl) | exact Or.inr (Or.inr rfl)) (h1 : (x == ("__debug__" : Str)) = false := by decide) (h2 : (x == ("__classdict__" : Str)) = false := by decide) :
    EV X F ρ (.Name x pos) v := fun σ H Q E k => ofE (pe_var hN hv h1 h2) ⟨v, E.atV hd, k H (Same.refl H)⟩
/-- e.f -/
theorem ev_fld {q C dx : Addr} {fs : List (Str × V)} {fl : Str} (h : EV X F ρ e (.ref q)) (hF : F q = some (.ins C dx fs)) (c : Cls X.K C) (n : NoAttr X.K C fl) (hl : fs.lookup fl = some v) (hb : attributeBase e fl X.env (eval e X.env) = eval e X.env := by rfl) : EV X F ρ (.Attribute e fl pos) v := fun σ H Q E k => by
  refine ofE (pe_fld pe_w hb) ?_
  exact h σ H _ E fun H' e1 => ⟨q, C, dx, fs, v, rfl, e1 _ _ (E.2.2 _ _ hF), c, n, hl, k _ e1⟩
/-- d.get(k), k an int -/
theorem ev_get {q : Addr} {kvs : List (Key × V)} {i : Int} {apos cpos : Pos} (hu : X.A.units + 1 < cLine) (h : EV X F ρ o (.ref q)) (hF : F q = some (.dK kvs)) (he : ED X F ρ e (.int i))
    (m : M1 X o "get" apos e cpos := by exact ⟨rfl, rfl, rfl, rfl⟩) : EV X F ρ (.Call (.Attribute o "get" apos) [e] [] cpos) ((valV kvs (Sum.inl i : Key)).getD .non) := fun σ H Q E k => by
  refine ofE (pe_dget1 hu pe_w pe_w m) ?_
  refine h σ H _ E fun H1 e1 => ⟨q, rfl, .inl ⟨kvs, .inl (e1 _ _ (E.2.2 _ _ hF))⟩, ?_⟩
  refine he σ H1 _ (E.mono e1) fun v H2 e2 dv => ?_
  rw [dp_int dv]
  exact ⟨_, DGet.k (k := Sum.inl i) (e2 _ _ (e1 _ _ (E.2.2 _ _ hF))), k _ (e1.trans e2)⟩
/-- d[k], k an int -/
theorem ev_dix {q : Addr} {kvs : List (Key × V)} {i : Int} (hu : X.A.units + 1 < cLine) (h : EV X F ρ a (.ref q)) (hF : F q = some (.dK kvs)) (he : ED X F ρ b (.int i)) (hv : valV kvs (Sum.inl i : Key) = some v) (hs : NoSl b := by intro _ _; rfl) : EV X F ρ (.Subscript a b pos) v := fun σ H Q E k => by
  refine ofE (pe_dget hu pe_w pe_w hs) ?_
  refine h σ H _ E fun H1 e1 => ?_
  refine he σ H1 _ (E.mono e1) fun y H2 e2 dv => ?_
  rw [dp_int dv]
  refine ⟨q, v, rfl, ?_, k _ (e1.trans e2)⟩
  have g := DGet.k (k := (Sum.inl i : Key)) (e2 _ _ (e1 _ _ (E.2.2 _ _ hF)))
  rw [hv] at g
  exact g
end
/-! ### blocks that change lists, dicts, objects -/
/-- all that was tracked, but what stands at S, is kept -/
def Keep (S : Addr → Prop) (H H' : Hp) : Prop := ∀ b o, H b = some o → ¬ S b → H' b = some o
theorem Keep.of {S : Addr → Prop} {H H' : Hp} (e : Same H H') : Keep S H H' := fun b o h _ => e b o h
theorem Keep.trans {S : Addr → Prop} {H H1 H2 : Hp} (a : Keep S H H1) (b : Keep S H1 H2) : Keep S H H2 := fun c o h n => b c o (a c o h n) n
theorem Keep.upd {S : Addr → Prop} {H H' : Hp} {p : Addr} {o : HO} (a : Keep S H H') (h : S p ∨ H p = none) : Keep S H (L2.upd H' p o) := fun b u hb n => by
  have ne : b ≠ p := fun z => by
    subst z
    rcases h with h | h
    · exact n h
    · rw [h] at hb; cases hb
  rw [upd_ne ne]
  exact a b u hb n
theorem Keep.mono {S S' : Addr → Prop} {H H' : Hp} (a : Keep S H H') (h : ∀ b, S b → S' b) : Keep S' H H' := fun b o hb n => a b o hb fun s => n (h b s)
theorem Keep.tk {S : Addr → Prop} {K : PySem.W.Frag} {H H' : Hp} (a : Keep S H H') (h : ∀ b, S b → NoTup (H b)) : TK K H H' := fun b xs q => by
  rcases q with (q | ⟨o, q⟩) | q
  · exact .inl (.inl (a _ _ q fun s => by have := h b s; rw [q] at this; exact this))
  · exact .inl (.inr ⟨o, a _ _ q fun s => by have := h b s; rw [q] at this; exact this⟩)
  · exact .inr q
/-- from every heap above F, with the slots as ρ says, the block does what D wants -/
def RB (X : Cx) (F : Hp) (ρ : Rho) (sts : List Stmt) (D : Ends) : Prop := ∀ σ H, EnvOk X.K F H σ ρ → wB X sts D σ H
section
variable {X : Cx} {F : Hp} {ρ : Rho} {a b c e f o : Expr} {es : List Expr} {rest sts us : List Stmt} {pos p2 p : Pos} {d d1 d2 d3 : PyData} {ds : List PyData} {x : Str} {v u : V} {D : Ends} {P' : PyData → Prop}
theorem EnvOk.anchor {K : PySem.W.Frag} {F H : Hp} {σ : L2.St} {ρ : Rho} (h : EnvOk K F H σ ρ) : EnvOk K H H σ ρ := ⟨h.1, h.2.1, Same.refl H⟩
theorem rb_nil (h : ∀ σ H, EnvOk X.K F H σ ρ → D.nx σ H) : RB X F ρ [] D := fun σ H E => wb_nil (h σ H E)
/-- the pure way -/
theorem rb_bd {Kn : Rho → Prop} {P : PyData → Prop} (h : BD X F ρ sts Kn P) (h1 : ∀ d v H', P d → Same F H' → Dp X.K H' v d → D.rt v H') (h2 : ∀ ρ' σ' H', Kn ρ' → EnvOk X.K F H' σ' ρ' → D.nx σ' H') : RB X F ρ sts D := fun σ H E =>
  h σ H D E (fun d v H' q e dv => h1 d v H' q (E.2.2.trans e) dv) fun ρ' σ' H' q e E' => h2 ρ' σ' H' q E'
/-- any statement -/
theorem rb_step {st : Stmt} (h : ∀ σ H, EnvOk X.K F H σ ρ → wS X st { D with nx := fun σ H => wB X rest D σ H } σ H) : RB X F ρ (st :: rest) D := fun σ H E => wb_cons (h σ H E)
theorem rb_setR (i : Nat) (h : ER X F ρ e P') (k : ∀ d, P' d → RB X F (ρ.set i (some (.dat d))) rest D) (hN : X.N.Nodup) (hi : X.N[i]? = some x := by rfl) (hx : Loc X.env.scope x := by first | exact Or.inl rfl | exact Or.inr rfl)
    (hs : swapsWith e (some (.Name x p)) pos.line X.env = pure false := by rfl) (hf : X.fn x = true ∨ X.env.scope.names.lookup x = some .local := by first | exact .inl rfl | exact .inr rfl) : RB X F ρ (.Assign [.Name x p] e pos :: rest) D :=
  rb_step fun σ H E => ofS (ps_set hN hi hx pe_w hs hf) (h σ H _ E fun d v H' q e1 dv => k d q _ _ ((E.mono e1).set dv))
theorem rb_set (i : Nat) (h : ED X F ρ e d) (k : RB X F (ρ.set i (some (.dat d))) rest D) (hN : X.N.Nodup) (hi : X.N[i]? = some x := by rfl) (hx : Loc X.env.scope x := by first | exact Or.inl rfl | exact Or.inr rfl)
    (hs : swapsWith e (some (.Name x p)) pos.line X.env = pure false := by rfl) (hf : X.fn x = true ∨ X.env.scope.names.lookup x = some .local := by first | exact .inl rfl | exact .inr rfl) : RB X F ρ (.Assign [.Name x p] e pos :: rest) D :=
  rb_step fun σ H E => ofS (ps_set hN hi hx pe_w hs hf) (h σ H _ E fun v H' e1 dv => k _ _ ((E.mono e1).set dv))
theorem rb_setV (i : Nat) (h : EV X F ρ e v) (k : RB X F (ρ.set i (some (.val v))) rest D) (hN : X.N.Nodup) (hi : X.N[i]? = some x := by rfl) (hx : Loc X.env.scope x := by first | exact Or.inl rfl | exact Or.inr rfl)
    (hs : swapsWith e (some (.Name x p)) pos.line X.env = pure false := by rfl) (hf : X.fn x = true ∨ X.env.scope.names.lookup x = some .local := by first | exact .inl rfl | exact .inr rfl) : RB X F ρ (.Assign [.Name x p] e pos :: rest) D :=
  rb_step fun σ H E => ofS (ps_set hN hi hx pe_w hs hf) (h σ H _ E fun H' e1 => k _ _ ((E.mono e1).setS (x := .val v) rfl))
/-- name = e, by what e does to the heap -/
theorem rb_setW (i : Nat) (h : ∀ σ H, EnvOk X.K F H σ ρ → wE X e σ H fun v H' => ∃ F' x, RB X F' (ρ.set i (some x)) rest D ∧ EnvOk X.K F' H' σ ρ ∧ SlotOk X.K H' v x) (hN : X.N.Nodup) (hi : X.N[i]? = some x := by rfl) (hx : Loc X.env.scope x := by first | exact Or.inl rfl | exact Or.inr rfl)
    (hs : swapsWith e (some (.Name x p)) pos.line X.env = pure false := by rfl) (hf : X.fn x = true ∨ X.env.scope.names.lookup x = some .local := by first | exact .inl rfl | exact .inr rfl) : RB X F ρ (.Assign [.Name x p] e pos :: rest) D :=
  rb_step fun σ H E => ofS (ps_set hN hi hx pe_w hs hf) ((h σ H E).mono fun v H' ⟨F', x, k, E', q⟩ => k _ _ (E'.setS q))
/-- an expression alone, by what it does to the heap -/
theorem rb_exprW (h : ∀ σ H, EnvOk X.K F H σ ρ → wE X e σ H fun v H' => ∃ F', RB X F' ρ rest D ∧ EnvOk X.K F' H' σ ρ) (hs : swapsWith e none pos.line X.env = pure false := by rfl) : RB X F ρ (.Expr e pos :: rest) D :=
  rb_step fun σ H E => ofS (ps_expr pe_w hs) ((h σ H E).mono fun v H' ⟨F', k, E'⟩ => k _ _ E')
theorem rb_ret (h : ED X F ρ e d) (q : ∀ v H', Same F H' → Dp X.K H' v d → D.rt v H') : RB X F ρ (.Return (some e) pos :: rest) D := fun σ H E => by
  refine wb_cons (ofS (ps_ret pe_w) ?_)
  exact h σ H _ E fun v H' e1 dv => q v H' (E.2.2.trans e1) dv
theorem rb_retV (h : EV X F ρ e v) (q : ∀ H', Same F H' → D.rt v H') : RB X F ρ (.Return (some e) pos :: rest) D := fun σ H E => by
  refine wb_cons (ofS (ps_ret pe_w) ?_)
  exact h σ H _ E fun H' e1 => q H' (E.2.2.trans e1)
theorem rb_retW (h : ∀ σ H, EnvOk X.K F H σ ρ → wE X e σ H D.rt) : RB X F ρ (.Return (some e) pos :: rest) D := fun σ H E => wb_cons (ofS (ps_ret pe_w) (h σ H E))
theorem rb_if {t : Bool} (hc : TD X F ρ c t) (h1 : t = true → RB X F ρ sts { D with nx := fun σ H => wB X rest D σ H }) (h2 : t = false → RB X F ρ us { D with nx := fun σ H => wB X rest D σ H }) : RB X F ρ (.If c sts us pos :: rest) D :=
  rb_step fun σ H E => ofS (ps_if pt_w pb_w pb_w) (hc σ H _ E fun H1 e1 => by
    cases t with
    | true => rw [if_pos rfl]; exact h1 rfl σ H1 (E.mono e1)
    | false => rw [if_neg Bool.false_ne_true]; exact h2 rfl σ H1 (E.mono e1))
theorem rb_skip {t : Bool} (hc : TD X F ρ c t) (ht : t = false) (h2 : RB X F ρ rest D) : RB X F ρ (.If c sts [] pos :: rest) D := rb_if hc (fun h => by rw [ht] at h; cases h) fun _ => rb_nil h2
/-- an if without else whose block goes on -/
theorem rb_when {t : Bool} (hc : TD X F ρ c t) (h1 : t = true → RB X F ρ sts { D with nx := fun σ H => wB X rest D σ H }) (h2 : t = false → RB X F ρ rest D) : RB X F ρ (.If c sts [] pos :: rest) D := rb_if hc h1 fun t => rb_nil (h2 t)
/-- while: W by its measure, what is known, the slots -/
theorem rb_while (W : Nat → Hp → Rho → Prop) (m0 : Nat) (h0 : W m0 F ρ) (hp : PassesOwn (model X.prog X.w) X.A X.env X.xe)
    (hs : ∀ m F' ρ', W m F' ρ' → ∃ t, TD X F' ρ' c t ∧ (t = true → RB X F' ρ' sts { nx := fun σ H => ∃ m' F2 ρ2, m' < m ∧ W m' F2 ρ2 ∧ EnvOk X.K F2 H σ ρ2, ct := fun σ H => ∃ m' F2 ρ2, m' < m ∧ W m' F2 ρ2 ∧ EnvOk X.K F2 H σ ρ2, bk := fun σ H => wB X rest D σ H, rt := D.rt }) ∧ (t = false → RB X F' ρ' rest D)) :
    RB X F ρ (.While c sts [] pos :: rest) D := rb_step fun σ H E => by
  refine ofS (ps_while hp pt_w pb_w) ?_
  refine ⟨fun m σ' H' => ∃ F' ρ', W m F' ρ' ∧ EnvOk X.K F' H' σ' ρ', ⟨m0, F, ρ, h0, E⟩, ?_⟩
  rintro m σ' H' ⟨F', ρ', w, E'⟩
  obtain ⟨t, ht, hb, hd⟩ := hs m F' ρ' w
  refine ht σ' H' _ E' fun H2 s2 => ?_
  cases t with
  | true =>
    rw [if_pos rfl]
    refine ⟨fun σ3 H3 => ∃ m' F2 ρ2, m' < m ∧ W m' F2 ρ2 ∧ EnvOk X.K F2 H3 σ3 ρ2, fun σ3 H3 ⟨m', F2, ρ2, h1, h2, h3⟩ => ⟨m', h1, F2, ρ2, h2, h3⟩, ?_⟩
    exact hb rfl σ' H2 (E'.mono s2)
  | false =>
    rw [if_neg Bool.false_ne_true]
    exact hd rfl σ' H2 (E'.mono s2)
/-- what a loop's walk leans on: from H1, where the loop begins, to the heap of any turn -/
def WalkM (K : PySem.W.Frag) (J : It) (H1 : Hp) (G : Hp → Prop) (items : List PyData) : Prop :=
  ∀ H, G H → (∀ i, i < items.length → J.go i H) ∧ J.stop items.length H ∧ ∀ i x H' d, items[i]? = some d → J.yld i H x H' → Same H H' ∧ Dp K H' x d
/-- for over data; W: where the loop began, the turn, what is known, the slots. G: what the walk leans on -/
theorem rb_for {ι : Type} {items : List ι} {enc : ι → PyData} {tg iter : Expr} {g : TG} {js : List Nat} {G : Hp → Hp → Prop} (en : ι → Rho → Rho) (W : Hp → Nat → Hp → Rho → Prop) (hc : X.calm = true) (hp : PassesOwn (model X.prog X.w) X.A X.env X.xe)
    (hi : ∀ σ H R, EnvOk X.K F H σ ρ → (∀ J H1, Same H H1 → WalkM X.K J H1 (G H1) (items.map enc) → R J H1) → wI X tg iter σ H R) (hg : PG X tg g)
    (h0 : ∀ H1, Same F H1 → W H1 0 H1 ρ) (tk : ∀ H1 i F' H' ρ', Same F H1 → W H1 i F' ρ' → Same F' H' → G H1 H') (tgo : ∀ i ∈ items, ∀ ρ', TgOk X.K g js ρ' (enc i) (en i ρ'))
    (hb : ∀ H1 (i : Nat) (a : ι) F' ρ', Same F H1 → items[i]? = some a → W H1 i F' ρ' → RB X F' (en a ρ') sts { nx := fun σ H => ∃ F2 ρ2, W H1 (i + 1) F2 ρ2 ∧ EnvOk X.K F2 H σ ρ2, ct := fun σ H => ∃ F2 ρ2, W H1 (i + 1) F2 ρ2 ∧ EnvOk X.K F2 H σ ρ2, bk := fun σ H => wB X rest D σ H, rt := D.rt })
    (hd : ∀ H1 F' ρ', Same F H1 → W H1 items.length F' ρ' → RB X F' ρ' rest D)
    (hs : ∀ x, foldedSetIterable iter X.env x = pure x := by intro _; rfl) : RB X F ρ (.For tg iter sts [] pos :: rest) D := rb_step fun σ H E => by
  refine ofS (ps_for hp hc pi_w hg pb_w hs) ?_
  refine hi σ H _ E fun J H1 e1 w => ?_
  have eF := E.2.2.trans e1
  let n := items.length
  have hn : (items.map enc).length = n := by simp [n]
  refine ⟨fun i m σ' H' => m = n - i ∧ i ≤ n ∧ ∃ F' ρ', W H1 i F' ρ' ∧ EnvOk X.K F' H' σ' ρ', ⟨n, by simp, Nat.zero_le _, H1, ρ, h0 H1 eF, (E.mono e1).anchor⟩, ?_⟩
  rintro i m σ' H' ⟨rfl, hin, F', ρ', q, E'⟩
  obtain ⟨w1, w2, w3⟩ := w H' (tk H1 i F' H' ρ' eF q E'.2.2)
  by_cases hlt : i < n
  · right
    refine ⟨w1 i (by omega), fun σ2 H2 => i + 1 ≤ n ∧ ∃ F' ρ', W H1 (i + 1) F' ρ' ∧ EnvOk X.K F' H2 σ2 ρ', fun σ2 H2 q => ⟨n - (i + 1), by omega, rfl, q⟩, fun x H2 y => ?_⟩
    have hit : items[i]? = some items[i] := List.getElem?_eq_getElem hlt
    have hmem : items[i] ∈ items := List.getElem_mem hlt
    obtain ⟨s2, dx⟩ := w3 i x H2 (enc items[i]) (by rw [List.getElem?_map, hit]; rfl) y
    refine tgo _ hmem ρ' F' σ' H2 x _ (E'.mono s2) dx fun σ2 E3 _ => ?_
    have B := hb H1 i _ F' ρ' eF hit q σ2 H2 E3
    exact fun pins s I => thn (B pins s I) fun fl s' z => by
      cases fl with
      | next => obtain ⟨σ4, H4, I4, z⟩ := z; exact ⟨σ4, H4, I4, hlt, z⟩
      | cont => obtain ⟨σ4, H4, I4, z⟩ := z; exact ⟨σ4, H4, I4, hlt, z⟩
      | brk => exact z
      | ret v => exact z
  · left
    have e : i = n := by omega
    subst e
    rw [hn] at w2
    exact ⟨w2, hd H1 F' ρ' eF q σ' H' E'⟩
/-- tuples, numbers: nothing but what is no tuple changes -/
theorem im_tup {tg iter : Expr} (h : ED X F ρ iter (.tuple ds)) (hm : ∀ d ∈ ds, imm d = true) : ∀ σ H R, EnvOk X.K F H σ ρ → (∀ J H1, Same H H1 → WalkM X.K J H1 (TK X.K H1) ds → R J H1) → wI X tg iter σ H R := fun σ H R E k => by
  refine ofI (pi_tup pe_w) ?_
  refine h σ H _ E fun v H1 e1 dv => ?_
  obtain ⟨q, xs, rfl, hq, hxs⟩ := dp_tup dv
  refine ⟨q, rfl, ⟨xs, hq⟩, k _ _ e1 fun H2 t => ?_⟩
  have hq' := t _ _ hq
  have hxs' := dpA_tk t ds (immL_iff.mpr hm) hxs
  exact walkD_tup hq' hxs' H2 (Same.refl _)
theorem im_rng1 {tg : Expr} {j : Nat} (hm : X.mg "range" = none) (h : ED X F ρ a (.int (j : Int))) (hj : j ≤ 1000000) (hg : Gl X "range" := by rfl) (hs : starEach [a] X.env = [(false, eval a X.env)] := by rfl) :
    ∀ σ H R, EnvOk X.K F H σ ρ → (∀ J H1, Same H H1 → WalkM X.K J H1 (TK X.K H1) ((List.range j).map fun i => .int (i : Nat)) → R J H1) → wI X tg (.Call (.Name "range" p) [a] [] pos) σ H R := fun σ H R E k => by
  refine ofI (pi_range1 hg hm pa_w hs) ?_
  refine (ea_cons h ea_nil hs) σ H _ E fun vs H1 e1 dvs => ?_
  obtain ⟨v, rfl, dv⟩ := dpA1 dvs
  refine ⟨(j : Int), by rw [dp_int dv], by omega, by omega, k _ _ e1 fun H2 t => ?_⟩
  have w := walkD_rng (K := X.K) (H1 := H2) (lo := 0) (n := j) H2 (Same.refl _)
  have e : ((j : Int)).toNat = j := by simp
  have e2 : intsL 0 j = (List.range j).map fun i => PyData.int (i : Nat) := by unfold intsL; simp
  rw [e, ← e2]
  exact w
def NoSeq : Option HO → Prop
  | some (.tup _) => False
  | some (.lst _) => False
  | some (.frz _ _) => False
  | _ => True
/-- lists: no sequence changes -/
def SK (H H' : Hp) : Prop := ∃ S, Keep S H H' ∧ ∀ b, S b → NoSeq (H b)
theorem SK.lst {K : PySem.W.Frag} {H H' : Hp} {q : Addr} {xs : List V} (k : SK H H') (h : SqL K H q xs) : SqL K H' q xs := by
  obtain ⟨S, k, n⟩ := k
  rcases h with (h | ⟨o, h⟩) | h
  · exact .inl (.inl (k _ _ h fun s => by have := n q s; rw [h] at this; exact this))
  · exact .inl (.inr ⟨o, k _ _ h fun s => by have := n q s; rw [h] at this; exact this⟩)
  · exact .inr h
theorem SK.tk {K : PySem.W.Frag} {H H' : Hp} (k : SK H H') : TK K H H' := by
  obtain ⟨S, k, n⟩ := k
  refine k.tk fun b s => ?_
  have := n b s
  cases q : H b with
  | none => trivial
  | some o => rw [q] at this; cases o <;> first | exact this | trivial
theorem im_lst {tg iter : Expr} (h : ED X F ρ iter (.list ds)) (hm : ∀ d ∈ ds, imm d = true) : ∀ σ H R, EnvOk X.K F H σ ρ → (∀ J H1, Same H H1 → WalkM X.K J H1 (SK H1) ds → R J H1) → wI X tg iter σ H R := fun σ H R E k => by
  refine ofI (pi_list pe_w) ?_
  refine h σ H _ E fun v H1 e1 dv => ?_
  obtain ⟨q, xs, rfl, hq, hxs⟩ := dp_lst dv
  refine ⟨q, rfl, ⟨xs, hq⟩, k _ _ e1 fun H2 t => ?_⟩
  have hq' := t.lst hq
  have hxs' := dpA_tk (t.tk (K := X.K)) ds (immL_iff.mpr hm) hxs
  exact walkD_lst hq' hxs' H2 (Same.refl _)
theorem SK.same {H H1 H2 : Hp} (k : SK H H1) (e : Same H1 H2) : SK H H2 := by
  obtain ⟨S, k, n⟩ := k
  exact ⟨S, k.trans (Keep.of e), n⟩
end
end DL
end
section
namespace DL
open PySem PySem.Spec PyProof.Rows L2
/-! ### methods of own classes -/
inductive SlAll (K : PySem.W.Frag) (H : Hp) : List V → List Slot → Prop
  | nil : SlAll K H [] []
  | cons {v : V} {vs : List V} {x : Slot} {xs : List Slot} : SlotOk K H v x → SlAll K H vs xs → SlAll K H (v :: vs) (x :: xs)
theorem slAll_dat {K : PySem.W.Frag} {H : Hp} : ∀ {vs : List V} {ds : List PyData}, SlAll K H vs (ds.map .dat) → DpAll K H vs ds
  | _, [], h => by cases h; exact .nil
  | _, d :: ds, h => by cases h with | cons h1 h2 => exact .cons h1 (slAll_dat h2)
def EAS (X : Cx) (F : Hp) (ρ : Rho) (es : List Expr) (xs : List Slot) : Prop := ∀ σ H Q, EnvOk X.K F H σ ρ → (∀ vs H', Same H H' → SlAll X.K H' vs xs → Q vs H') → wA X es σ H Q
/-- a method of the class at C -/
structure MetA (P : Program) (w : World) (K : PySem.W.Frag) (mg : Str → Option Value) (base : Heap) (k : Nat) (C : Addr) (m : Str) (sp : Sp) : Prop where
  ex : ∃ (f : Addr) (fd : FuncData) (ps : List Str), Cls K C ∧ Meth K C m f ∧ FnOk P w K mg base CX0 k f fd ps sp ∧ Binds K fd ps []
section
variable {X : Cx} {F : Hp} {ρ : Rho} {a b c e f o : Expr} {es : List Expr} {pos p2 p apos : Pos} {d d1 d2 d3 : PyData} {ds : List PyData} {xs : List Slot} {y : Slot} {x m : Str} {v u : V} {C : Addr} {sp : Sp} {k j : Nat}
theorem eas_nil : EAS X F ρ [] [] := fun σ H Q E k => ofA pa_nil (k _ _ (Same.refl H) .nil)
theorem eas_cons (ha : ED X F ρ a d) (hr : EAS X F ρ es xs) (hs : starEach (a :: es) X.env = (false, eval a X.env) :: starEach es X.env := by rfl) : EAS X F ρ (a :: es) (.dat d :: xs) := fun σ H Q E k => by
  refine ofA (pa_cons pe_w pa_w hs) ?_
  refine ha σ H _ E fun v H1 e1 dv => ?_
  exact hr σ H1 _ (E.mono e1) fun vs H2 e2 dvs => k _ _ (e1.trans e2) (.cons (dp_mono e2 dv) dvs)
theorem eas_consV (ha : EV X F ρ a v) (hr : EAS X F ρ es xs) (hs : starEach (a :: es) X.env = (false, eval a X.env) :: starEach es X.env := by rfl) : EAS X F ρ (a :: es) (.val v :: xs) := fun σ H Q E k => by
  refine ofA (pa_cons pe_w pa_w hs) ?_
  refine ha σ H _ E fun H1 e1 => ?_
  exact hr σ H1 _ (E.mono e1) fun vs H2 e2 dvs => k _ _ (e1.trans e2) (.cons rfl dvs)
theorem eas_ea (h : EA X F ρ es ds) : EAS X F ρ es (ds.map .dat) := fun σ H Q E k => h σ H Q E fun vs H' e dvs => k vs H' e (by
  have : ∀ {vs : List V} {ds : List PyData}, DpAll X.K H' vs ds → SlAll X.K H' vs (ds.map .dat) := by
    intro vs ds
    induction ds generalizing vs with
    | nil => intro h; cases h; exact .nil
    | cons d ds ih => intro h; cases h with | cons h1 h2 => exact .cons h1 (ih h2)
  exact this dvs)
/-- o.m(e, ..) -/
theorem we_meth {q dx : Addr} {fs : List (Str × V)} {σ : L2.St} {H : Hp} {Q : VK} (c : MetA X.prog X.w X.K X.mg X.base k C m sp) (hr : Room j X.A) (hk : k ≤ j) (E : EnvOk X.K F H σ ρ) (ho : EV X F ρ o (.ref q)) (hF : F q = some (.ins C dx fs)) (hl : fs.lookup m = none) (ha : EAS X F ρ (e :: es) xs)
    (h : ∀ vs H', Same H H' → SlAll X.K H' vs xs → sp (.ref q :: vs) H' Q E0)
    (hst : starEach (e :: es) X.env = (false, eval e X.env) :: starEach es X.env := by rfl) (hpl : (backTo pos (starEach es X.env)).any (·.1) = false := by rfl)
    {pl : Sem Bool} (ht : eval (.Call (.Attribute o m apos) (e :: es) [] pos) X.env = (do
      let ov ← eval o X.env
      standAt apos.atName
      let (f, first) ← holding [ov] (getMethod ov m pl)
      callWith pos f first (backTo pos (starEach (e :: es) X.env)) (backToKw pos (keywordEach [] X.env))) := by rfl) : wE X (.Call (.Attribute o m apos) (e :: es) [] pos) σ H Q := by
  obtain ⟨f, fd, ps, hc, hm, FO, bd⟩ := c.ex
  refine ofE (pe_meth (pl := pl) pe_w hc hm FO (hr.mono hk) bd .nil pass0 pa_w hst hpl ht) ?_
  refine ho σ H _ E fun H1 e1 => ⟨q, dx, fs, rfl, e1 _ _ (E.2.2 _ _ hF), hl, ?_⟩
  refine ha σ H1 _ (E.mono e1) fun vs H2 e2 dvs => ?_
  rw [List.append_nil]
  exact h vs H2 (e1.trans e2) dvs
/-- o.m() -/
theorem we_meth0 {q dx : Addr} {fs : List (Str × V)} {σ : L2.St} {H : Hp} {Q : VK} (c : MetA X.prog X.w X.K X.mg X.base k C m sp) (hr : Room j X.A) (hk : k ≤ j) (E : EnvOk X.K F H σ ρ) (ho : EV X F ρ o (.ref q)) (hF : F q = some (.ins C dx fs)) (hl : fs.lookup m = none)
    (h : ∀ H', Same H H' → sp [.ref q] H' Q E0)
    {pl : Sem Bool} (ht : eval (.Call (.Attribute o m apos) [] [] pos) X.env = (do
      let ov ← eval o X.env
      standAt apos.atName
      let (f, first) ← holding [ov] (getMethod ov m pl)
      callWith pos f first (backTo pos (starEach [] X.env)) (backToKw pos (keywordEach [] X.env))) := by rfl) : wE X (.Call (.Attribute o m apos) [] [] pos) σ H Q := by
  obtain ⟨f, fd, ps, hc, hm, FO, bd⟩ := c.ex
  refine ofE (pe_meth0 (pl := pl) pe_w hc hm FO (hr.mono hk) bd .nil pass0 ht) ?_
  refine ho σ H _ E fun H1 e1 => ⟨q, dx, fs, rfl, e1 _ _ (E.2.2 _ _ hF), hl, ?_⟩
  exact h H1 e1
/-- l.append(e), of data -/
theorem we_append {l : Addr} {ys : List V} {σ : L2.St} {H : Hp} {Q : VK} (E : EnvOk X.K F H σ ρ) (ho : EV X F ρ o (.ref l)) (hF : F l = some (.lst ys)) (ha : ED X F ρ e d) (hl : ys.length ≤ 100000)
    (h : ∀ v H', Same H H' → Dp X.K H' v d → Q .non (upd H' l (.lst (ys ++ [v]))))
    (hbase : attributeBase o "append" X.env (eval o X.env) = eval o X.env := by rfl)
    (hfew : ((backTo pos (starEach [e] X.env)).all (fun x => !x.1) && (backToKw pos (keywordEach [] X.env)).all (fun x => x.1.isSome) && decide (([e] : List Expr).length + ([] : List Keyword).length + (if ([] : List Keyword).isEmpty then 0 else 1) < 30)) = true := by rfl)
    (hline : (apos.endLine == pos.line) = true := by rfl) (hs : starEach [e] X.env = (false, eval e X.env) :: starEach [] X.env := by rfl) (hplain : (backTo pos (starEach [] X.env)).any (·.1) = false := by rfl) :
    wE X (.Call (.Attribute o "append" apos) [e] [] pos) σ H Q := by
  refine ofE (pe_bm PySem.F.plainAttrs_list PySem.F.slot_list_append PySem.F.type_list_append mt_append pe_w (pa_cons pe_w pa_nil hs) hbase hfew hline hs hplain) ?_
  refine ho σ H _ E fun H1 e1 => ⟨.inl ⟨rfl, ys, SqL.of (e1 _ _ (E.2.2 _ _ hF))⟩, ?_⟩
  refine ha σ H1 _ (E.mono e1) fun v H2 e2 dv => ⟨l, ys, v, rfl, rfl, e2 _ _ (e1 _ _ (E.2.2 _ _ hF)), Nat.lt_of_le_of_lt hl (by decide), h v H2 (e1.trans e2) dv⟩
/-- l.pop() -/
theorem we_pop {l : Addr} {ys : List V} {σ : L2.St} {H : Hp} {Q : VK} (E : EnvOk X.K F H σ ρ) (ho : EV X F ρ o (.ref l)) (hF : F l = some (.lst (ys ++ [v])))
    (h : ∀ H', Same H H' → Q v (upd H' l (.lst ys)))
    (hbase : attributeBase o "pop" X.env (eval o X.env) = eval o X.env := by rfl) (hline : (apos.endLine == pos.line) = true := by rfl) :
    wE X (.Call (.Attribute o "pop" apos) [] [] pos) σ H Q := by
  refine ofE (pe_bm0 PySem.F.plainAttrs_list PySem.F.slot_list_pop PySem.F.type_list_pop mt_pop pe_w hbase hline) ?_
  refine ho σ H _ E fun H1 e1 => ⟨.inl ⟨rfl, _, SqL.of (e1 _ _ (E.2.2 _ _ hF))⟩, ?_⟩
  refine ⟨l, ys ++ [v], v, rfl, rfl, e1 _ _ (E.2.2 _ _ hF), by simp, ?_⟩
  rw [List.dropLast_concat]
  exact h H1 e1
end
/-- a method by its body, where what it does is told of heaps -/
theorem fnB {P : Program} {w : World} {K : PySem.W.Frag} {mg : Str → Option Value} {base : Heap} {x qual : Str} {params : Arguments} {body : List Stmt} {scope : Scope} {f : Addr} {fd : FuncData} {N ps : List Str} {k : Nat} {sp : Sp} (F : FunD K x qual params body scope [] [] f fd) (S : FnScope N ps scope)
    (len : ∀ vs H Q E, sp vs H Q E → vs.length = ps.length)
    (hb : ∀ (cd : Value) (A : Around) (outer : List Env) (s : Shared) (H : Hp) (vs : List V) (Q : VK) (E : XK), Room k (A.deeper (envOfC qual scope s.heap.objs.size f cd)) → sp vs H Q E → wB (cxD P w K mg base N qual scope f cd A outer s H E) body { nx := fun _ H' => Q .non H', rt := Q } (L2.start N vs) H) :
    FnOk P w K mg base CX0 (k + 1) f fd ps sp :=
  F.ok S len fun cdv A outer s H vs Q E hr h => ⟨_, PSs.nox pb_w, hb cdv A outer s H vs Q E hr h⟩
def rhoS (N : List Str) (xs : List Slot) : Rho := xs.map some ++ List.replicate (N.length - xs.length) none
theorem env_startS {K : PySem.W.Frag} {H : Hp} {N : List Str} : ∀ {vs : List V} {xs : List Slot}, SlAll K H vs xs → EnvOk K H H (L2.start N vs) (rhoS N xs) := by
  have len : ∀ {vs : List V} {xs : List Slot}, SlAll K H vs xs → vs.length = xs.length := by
    intro vs xs h
    induction h with
    | nil => rfl
    | cons _ _ ih => simp [ih]
  have get : ∀ {vs : List V} {xs : List Slot}, SlAll K H vs xs → ∀ (i : Nat) (x : Slot), xs[i]? = some x → ∃ v, vs[i]? = some v ∧ SlotOk K H v x := by
    intro vs xs h
    induction h with
    | nil => intro i x hx; simp at hx
    | cons h1 _ ih =>
      intro i x hx
      cases i with
      | zero => simp at hx; subst hx; exact ⟨_, rfl, h1⟩
      | succ i => simpa using ih i x (by simpa using hx)
  intro vs xs h
  have l := len h
  refine ⟨by simp [rhoS, L2.start, l], fun i d hd => ?_, Same.refl H⟩
  unfold rhoS at hd
  by_cases hi : i < xs.length
  · rw [List.getElem?_append_left (by simpa using hi), List.getElem?_map, Option.map_eq_some_iff] at hd
    obtain ⟨d', h1, h2⟩ := hd
    cases h2
    obtain ⟨v, hv, dv⟩ := get h i _ h1
    refine ⟨v, ?_, dv⟩
    unfold L2.start
    rw [List.getElem?_append_left (by simp; omega), List.getElem?_map, hv]
    rfl
  · rw [List.getElem?_append_right (by simpa using hi), List.getElem?_replicate] at hd
    split at hd <;> simp at hd
end DL
end
section
namespace L2
open PySem PySem.Spec PyProof.Rows
section
variable {X : Cx}
/-- sorted(d, reverse=b) of a dict, all keys ints -/
def rSortedDR (b : Bool) : List V → List V → Hp → VK → Prop := fun xs zs H Q => ∃ (a : Addr) (kvs : List (Key × V)) (ks : List Int), xs = [.ref a] ∧ zs = [.bl b] ∧ Rd H a (.dK kvs) ∧ kvs.map (·.1) = ks.map Sum.inl ∧ ks.length < 64 ∧
    ∀ (ys : List Int) (p : Addr), ys.Perm ks → OrdB b ys → H p = none → Q (.ref p) (upd H p (.lst (ys.map V.int)))
theorem cr_sortedDR {b : Bool} (hcalm : X.calm = true) : CallRK X (.builtin "sorted") [Str.ofString "reverse"] (rSortedDR b) := by
  intro pins s σ H xs zs us ws Q I r rz q
  obtain ⟨a, kvs, ks, rfl, rfl, hd, hks, h64, q⟩ := q
  obtain rfl := Vals.ref1 r
  obtain ⟨w1, rfl, e1⟩ := vals1 rz
  obtain rfl : w1 = Value.bool b := e1
  obtain ⟨z, lo, vs, rel, dd⟩ := dk_rd I.hok hd
  obtain ⟨ep, hat⟩ := dd.dictAt
  have hkeys : vs.map (·.1) = ks.map Sum.inl := rel.keys.symm.trans hks
  have hl : vs.length = ks.length := by
    have e := congrArg List.length hkeys
    rw [List.length_map, List.length_map] at e
    exact e
  have h16 : vs.length ≤ sizeLine := by rw [hl, sizeLine_eq]; omega
  refine PyProof.Rows.call_function_entry_kw PyProof.Rows.kind_sorted PyProof.Rows.plain_sorted PyProof.Rows.entry_sorted (PyProof.Rows.args_sorted_rev _ _) ?_
  unfold Builtin.«sorted»
  refine wpAny_bind (m := checkCount "sorted" 1 1 _) (wpAny_pure ?_)
  refine wpAny_bind (PySem.W.kdu_collect (A := X.A.in1) (PySem.W.kdl_dict (knd := mixKind X.prog X.w) (kvs := vs) (ep := ep) lo) (I.ok.hd hcalm) hat h16 fun h' tk acc hk hacc => ?_)
  have hal : acc.toList.length = ks.length := by rw [Array.length_toList, hacc.1, hl]
  have hS : IntsAre acc.toList ks := ints_each hal fun j v e => by
    obtain ⟨k, x, e1, e2⟩ := hacc.2 j v (by rw [← Array.getElem?_toList]; exact e)
    have e3 : (vs.map (·.1))[j]? = some k := by rw [List.getElem?_map, e1]; rfl
    rw [hkeys, List.getElem?_map] at e3
    cases e4 : ks[j]? with
    | none => rw [e4] at e3; cases e3
    | some y =>
      rw [e4] at e3
      have e5 : Sum.inl y = k := Option.some.inj e3
      subst e5
      rcases keyIs_shape (show keyIs (Sum.inl y) v = true from e2) with ⟨i, t, ek, ev⟩ | ⟨z, t, ek, ev⟩
      · cases ek
        exact ⟨y, t, rfl, ev⟩
      · cases ek
  have I1 : Inv X pins σ H { s with heap := h', toks := tk } := I.kept hk
  refine wpAny_bind (wpAny_newList ?_ (by rw [hal, sizeLine_eq]; omega))
  have hoL : (h'.push (seqObj "list" acc.toList.toArray 0)).get? h'.objs.size = some (seqObj "list" acc.toList.toArray 0) := Heap.get?_push_size _ rfl
  show wpAny _ _ _ _ _ { s with heap := h'.push (seqObj "list" acc.toList.toArray 0), toks := tk }
  refine wpAny_bind (wpAny_holding (PyProof.Rows.wpAny_call_entry_kw PyProof.Rows.slot_list_sort ⟨_, hoL, rfl⟩ PyProof.Rows.entry_list_sort
    (SrtR.list_sort_ordR (b := b) SrtO.swo_int hoL (by rw [hal, sizeLine_eq]; omega) (fun h2 => SrtO.ints_sortable hS h2) fun out h1 h2 => ⟨_, rfl, ?_⟩) (PyProof.Rows.args_list_sort_rev _ _)))
  obtain ⟨ys, k1, k2, k3⟩ := SrtR.ints_outR hS h1 h2
  obtain ⟨e', he'⟩ := PyProof.Rows.sortedHeap_at (vs := acc.toList) (out := if b = true then out.toArray.reverse else out.toArray) hoL
  have hlen : (ys.map V.int).length ≤ sizeLine := by
    rw [List.length_map, k2.length_eq]
    exact Nat.le_trans (Nat.le_of_lt h64) (by decide)
  refine wpAny_pure ⟨_, rfl, .ref h'.objs.size, upd H h'.objs.size (.lst (ys.map V.int)), I1.laid (t' := tk) (fun b u e => ?_) (Nat.le_refl _)
    (show ObjOk X.prog X.w _ _ _ (.lst (ys.map V.int)) from ⟨hlen, (if b = true then out.toArray.reverse else out.toArray).toList, e', vals_of_ints k1, by rw [Array.toArray_toList]; exact he'⟩), rfl, q ys _ k2 k3 (I1.hok.fresh (Nat.le_refl _))⟩
  have hb : b < h'.objs.size := Heap.lt_size e
  rw [PyProof.Rows.sortedHeap_old (Nat.ne_of_lt hb) (by rw [size_push']; exact Nat.lt_succ_of_lt hb)]
  exact Heap.get?_push_of_some _ e
end
end L2
namespace DL
open PySem PySem.Spec PyProof.Rows L2 WM
/-! ### dicts from small numbers to vectors -/
abbrev Kp := Nat → Option (List Int)
abbrev kI (c : Nat) : Key := Sum.inl (c : Int)
def KvOk (K : PySem.W.Frag) (H : Hp) (kvs : List (Key × V)) (kp : Kp) (m : Nat) : Prop :=
  (∀ c r, kp c = some r → ∃ v, valV kvs (kI c) = some v ∧ Dp K H v (dV r)) ∧ ∃ ks : List Nat, kvs.map (·.1) = ks.map kI ∧ ks.Nodup ∧ (∀ c, c ∈ ks ↔ (kp c).isSome = true) ∧ ∀ c ∈ ks, c < m
def colsOf (m : Nat) (kp : Kp) : List Nat := (List.range m).filter fun c => (kp c).isSome
def putP (kp : Kp) (c : Nat) (r : List Int) : Kp := fun d => if d = c then some r else kp d
section
variable {K : PySem.W.Frag} {H H' : Hp} {kvs : List (Key × V)} {kp : Kp} {m : Nat}
theorem KvOk.nil : KvOk K H [] (fun _ => none) m := ⟨fun _ _ h => by simp at h, [], rfl, List.nodup_nil, fun c => by simp, fun c h => by simp at h⟩
theorem KvOk.tk (h : KvOk K H kvs kp m) (t : TK K H H') : KvOk K H' kvs kp m := ⟨fun c r e => by
  obtain ⟨v, h1, h2⟩ := h.1 c r e
  exact ⟨v, h1, dp_tk t _ (imm_dV r) h2⟩, h.2⟩
theorem kI_inj {c d : Nat} (h : kI c = kI d) : c = d := by
  have := Sum.inl.inj h
  omega
theorem KvOk.none {c : Nat} (h : KvOk K H kvs kp m) (e : kp c = Option.none) : valV kvs (kI c) = Option.none := by
  obtain ⟨_, ks, h1, _, h3, _⟩ := h
  cases q : valV kvs (kI c) with
  | none => rfl
  | some v =>
    exfalso
    have a := valV_any (kI c) kvs
    rw [q, Option.isSome_some, List.any_eq_true] at a
    obtain ⟨kv, m1, m2⟩ := a
    have m3 : kv.1 ∈ kvs.map (·.1) := List.mem_map.mpr ⟨kv, m1, rfl⟩
    rw [h1] at m3
    obtain ⟨d, m4, m5⟩ := List.mem_map.mp m3
    have : d = c := kI_inj (m5.trans (of_decide_eq_true m2))
    subst this
    have := (h3 d).mp m4
    rw [e] at this
    cases this
theorem KvOk.put {c : Nat} {r : List Int} {v : V} (h : KvOk K H kvs kp m) (hc : c < m) (hv : Dp K H v (dV r)) : KvOk K H (putK kvs (kI c) v) (putP kp c r) m := by
  have hn := fun e => h.none (c := c) e
  obtain ⟨h0, ks, h1, h2, h3, h4⟩ := h
  refine ⟨fun d r' e => ?_, ?_⟩
  · rw [valV_put]
    unfold putP at e
    by_cases q : d = c
    · subst q
      rw [if_pos rfl] at e ⊢
      cases e
      exact ⟨v, rfl, hv⟩
    · rw [if_neg q] at e
      rw [if_neg (fun z => q (kI_inj z))]
      exact h0 d r' e
  · unfold putK
    by_cases a : (kvs.any fun kv => decide (kv.1 = kI c)) = true
    · rw [if_pos a]
      have hm : (kp c).isSome = true := by
        cases e : kp c with
        | some _ => rfl
        | none => rw [valV_any, hn e] at a; cases a
      refine ⟨ks, ?_, h2, fun d => ?_, h4⟩
      · rw [List.map_map, ← h1]
        refine List.map_congr_left fun kv _ => ?_
        simp only [Function.comp]
        split <;> rfl
      · unfold putP
        by_cases q : d = c
        · subst q; rw [if_pos rfl]; simp [h3, hm]
        · rw [if_neg q]; exact h3 d
    · rw [if_neg a]
      have hm : c ∉ ks := fun z => by
        apply a
        rw [List.any_eq_true]
        have m3 : kI c ∈ kvs.map (·.1) := by rw [h1]; exact List.mem_map.mpr ⟨c, z, rfl⟩
        obtain ⟨kv, m4, m5⟩ := List.mem_map.mp m3
        exact ⟨kv, m4, by simp [m5]⟩
      refine ⟨ks ++ [c], by simp [h1], List.nodup_append.mpr ⟨h2, by simp, fun x hx y hy => by simp at hy; subst hy; exact fun z => hm (z ▸ hx)⟩, fun d => ?_, fun d hd => ?_⟩
      · unfold putP
        by_cases q : d = c
        · subst q; simp
        · rw [if_neg q, ← h3]; simp [q]
      · rcases List.mem_append.mp hd with q | q
        · exact h4 d q
        · simp at q; omega
theorem nodup_cols (m : Nat) (kp : Kp) : (colsOf m kp).Pairwise (· < ·) := List.Pairwise.filter _ List.pairwise_lt_range
theorem KvOk.perm (h : KvOk K H kvs kp m) : ∃ ks : List Nat, kvs.map (·.1) = ks.map kI ∧ ks.Perm (colsOf m kp) := by
  obtain ⟨h0, ks, h1, h2, h3, h4⟩ := h
  refine ⟨ks, h1, (List.perm_ext_iff_of_nodup h2 ((nodup_cols m kp).imp fun h => Nat.ne_of_lt h)).mpr fun c => ?_⟩
  unfold colsOf
  rw [List.mem_filter, List.mem_range, h3]
  exact ⟨fun e => ⟨h4 c ((h3 c).mpr e), e⟩, fun e => e.2⟩
theorem cols_len (m : Nat) (kp : Kp) : (colsOf m kp).length ≤ m := by
  unfold colsOf
  have := List.length_filter_le (fun c => (kp c).isSome) (List.range m)
  simpa using this
theorem KvOk.len (h : KvOk K H kvs kp m) : kvs.length ≤ m := by
  obtain ⟨ks, h1, h2⟩ := h.perm
  have e := congrArg List.length h1
  rw [List.length_map, List.length_map, h2.length_eq] at e
  rw [e]
  exact cols_len m kp
end
def optV : Option (List Int) → PyData
  | some r => dV r
  | none => .none
section
variable {X : Cx} {F : Hp} {ρ : Rho} {a b c e f o tg : Expr} {es : List Expr} {rest sts us : List Stmt} {pos p2 p pos' : Pos} {d d1 d2 d3 : PyData} {ds : List PyData} {x : Str} {v u : V} {D : Ends} {kvs : List (Key × V)} {kp : Kp} {m : Nat} {q : Addr}
theorem ed_kget {i : Nat} {apos cpos : Pos} (hu : X.A.units + 1 < cLine) (h : EV X F ρ o (.ref q)) (hF : F q = some (.dK kvs)) (hk : KvOk X.K F kvs kp m) (he : ED X F ρ e (.int (i : Int)))
    (m1 : M1 X o "get" apos e cpos := by exact ⟨rfl, rfl, rfl, rfl⟩) : ED X F ρ (.Call (.Attribute o "get" apos) [e] [] cpos) (optV (kp i)) := by
  refine ed_ev (ev_get hu h hF he m1) ?_
  cases q : kp i with
  | none => rw [show valV kvs (Sum.inl (i : Int)) = none from hk.none q]; exact .non
  | some r =>
    obtain ⟨v, h1, h2⟩ := hk.1 i r q
    rw [show valV kvs (Sum.inl (i : Int)) = some v from h1]
    exact h2
theorem ed_kix {i : Nat} {r : List Int} (hu : X.A.units + 1 < cLine) (h : EV X F ρ a (.ref q)) (hF : F q = some (.dK kvs)) (hk : KvOk X.K F kvs kp m) (he : ED X F ρ b (.int (i : Int))) (hr : kp i = some r) (hs : NoSl b := by intro _ _; rfl) : ED X F ρ (.Subscript a b pos) (dV r) := by
  obtain ⟨v, h1, h2⟩ := hk.1 i r hr
  exact ed_ev (ev_dix hu h hF he h1 hs) h2
/-- d[c] = e -/
theorem rb_kput {i : Nat} {r : List Int} (hu : X.A.units + 1 < cLine) (hm : m < 1000) (h : EV X F ρ a (.ref q)) (hF : F q = some (.dK kvs)) (hk : KvOk X.K F kvs kp m) (hi : i < m) (he : ED X F ρ b (.int (i : Int))) (hv : ED X F ρ e (dV r)) (hR : immR ρ)
    (k : ∀ H kvs', Keep (· = q) F H → TK X.K F H → H q = some (.dK kvs') → KvOk X.K H kvs' (putP kp i r) m → RB X H ρ rest D)
    (hs : swapsWith e (some (.Subscript a b pos')) pos.line X.env = pure false := by rfl) : RB X F ρ (.Assign [.Subscript a b pos'] e pos :: rest) D :=
  rb_step fun σ H E => by
    refine ofS (ps_dput hu pe_w pe_w pe_w hs) ?_
    refine hv σ H _ E fun v H1 e1 dv => ?_
    refine h σ H1 _ (E.mono e1) fun H2 e2 => ?_
    refine he σ H2 _ ((E.mono e1).mono e2) fun y H3 e3 dy => ?_
    rw [dp_int dy]
    have E3 := ((E.mono e1).mono e2).mono e3
    have hq := E3.2.2 _ _ hF
    refine ⟨q, _, rfl, DPut.k (k := kI i) hq (Nat.lt_of_lt_of_le (Nat.lt_of_le_of_lt hk.len hm) (by decide)), ?_⟩
    have t : TK X.K H3 (upd H3 q (.dK (putK kvs (kI i) v))) := (TK.refl H3).upd (by rw [hq]; trivial)
    have tF : TK X.K F (upd H3 q (.dK (putK kvs (kI i) v))) := (TK.of E3.2.2).trans t
    refine k _ _ ((Keep.of E3.2.2).upd (.inl rfl)) tF upd_same ?_ σ _ (E3.tk t hR (Same.refl _))
    exact (hk.tk tF).put hi (dp_tk t _ (imm_dV r) (dp_mono (e2.trans e3) dv))
theorem cast_sorted {m : Nat} {kp : Kp} {ks : List Nat} {ys : List Int} (h : ks.Perm (colsOf m kp)) (hp : ys.Perm (ks.map fun c : Nat => (c : Int))) (ho : ys.Pairwise (· ≤ ·)) : ys = (colsOf m kp).map fun c : Nat => (c : Int) := by
  refine List.Perm.eq_of_pairwise (fun a b _ _ => Int.le_antisymm) ho (List.pairwise_map.mpr ((nodup_cols m kp).imp fun h => by omega)) (hp.trans (h.map _))
theorem cast_sortedR {m : Nat} {kp : Kp} {ks : List Nat} {ys : List Int} (h : ks.Perm (colsOf m kp)) (hp : ys.Perm (ks.map fun c : Nat => (c : Int))) (ho : ys.Pairwise (· ≥ ·)) : ys = (colsOf m kp).reverse.map fun c : Nat => (c : Int) := by
  refine List.Perm.eq_of_pairwise (fun a b _ _ h h' => Int.le_antisymm h' h) ho (List.pairwise_map.mpr (List.pairwise_reverse.mpr ((nodup_cols m kp).imp fun h => by omega))) (hp.trans ((h.trans (List.reverse_perm _).symm).map _))
/-- sorted(d) -/
theorem ed_sortedK (hm : X.mg "sorted" = none) (hc : X.calm = true) (h : EV X F ρ e (.ref q)) (hF : F q = some (.dK kvs)) (hk : KvOk X.K F kvs kp m) (h64 : m < 64) (hg : Gl X "sorted" := by rfl) (he : starEach [e] X.env = (false, eval e X.env) :: starEach [] X.env := by rfl) : ED X F ρ (.Call (.Name "sorted" p) [e] [] pos) (.list ((colsOf m kp).map fun c : Nat => .int (c : Int))) := fun σ H Q E k => by
  refine ofE (pe_callB (call_sortedDI hc) hg hm (by decide +kernel) (pa_cons pe_w pa_nil he) (by decide) (by decide) he rfl) ?_
  refine h σ H _ E fun H1 e1 => ?_
  obtain ⟨ks, h1, h2⟩ := hk.perm
  have hq := e1 _ _ (E.2.2 _ _ hF)
  refine ⟨q, kvs, ks.map fun c : Nat => (c : Int), rfl, .inl hq, by rw [h1, List.map_map]; rfl, ?_, fun ys p hp ho hn => ?_⟩
  · rw [List.length_map, h2.length_eq]; exact Nat.lt_of_le_of_lt (cols_len m kp) h64
  · rw [cast_sorted h2 hp ho]
    refine k _ _ (e1.trans (Same.new hn)) (.lst (SqL.of upd_same) ?_)
    rw [List.map_map]
    have := ints_dpA (K := X.K) (H := upd H1 p (.lst (((colsOf m kp).map fun c : Nat => (c : Int)).map V.int))) ((colsOf m kp).map fun c : Nat => (c : Int))
    rw [List.map_map, List.map_map] at this
    exact this
/-- sorted(d, reverse=True) -/
theorem ed_sortedRK {j : Nat} {p3 kpos : Pos} (hm : X.mg "sorted" = none) (hc : X.calm = true) (h : EV X F ρ e (.ref q)) (hF : F q = some (.dK kvs)) (hk : KvOk X.K F kvs kp m) (h64 : m < 64) (hg : Gl X "sorted" := by rfl) (he : starEach [e] X.env = (false, eval e X.env) :: starEach [] X.env := by rfl) :
    ED X F ρ (.Call (.Name "sorted" p) [e] [⟨some "reverse", .Constant (.bool true) j p3, kpos⟩] pos) (.list ((colsOf m kp).reverse.map fun c : Nat => .int (c : Int))) := fun σ H Q E k => by
  refine ofE (pe_callBK (cr_sortedDR (b := true) hc) hg hm (by decide +kernel) (pa_cons pe_w pa_nil he) (pk_cons pe_bl pk_nil) (by decide) (by decide) (by rw [he]; rfl) (by rw [he]; rfl) (by rfl) (by rfl) (by rfl)) ?_
  refine h σ H _ E fun H1 e1 => ?_
  obtain ⟨ks, h1, h2⟩ := hk.perm
  have hq := e1 _ _ (E.2.2 _ _ hF)
  refine ⟨q, kvs, ks.map fun c : Nat => (c : Int), rfl, rfl, .inl hq, by rw [h1, List.map_map]; rfl, ?_, fun ys p hp ho hn => ?_⟩
  · rw [List.length_map, h2.length_eq]; exact Nat.lt_of_le_of_lt (cols_len m kp) h64
  · rw [cast_sortedR h2 hp ho]
    refine k _ _ (e1.trans (Same.new hn)) (.lst (SqL.of upd_same) ?_)
    have := ints_dpA (K := X.K) (H := upd H1 p (.lst (((colsOf m kp).reverse.map fun c : Nat => (c : Int)).map V.int))) ((colsOf m kp).reverse.map fun c : Nat => (c : Int))
    have e2 : ((colsOf m kp).reverse.map fun c : Nat => (c : Int)).map PyData.int = (colsOf m kp).reverse.map fun c : Nat => PyData.int (c : Int) := by rw [List.map_map]; rfl
    rw [e2] at this
    exact this
end
end DL
end
section
namespace DL
open WM
/-! ### spans of sets; the elimination's steps -/
inductive SpP (M : Int) (n : Nat) (P : List Int → Prop) : Fn → Prop
  | zero {v : Fn} : (∀ i, i < n → M ∣ v i) → SpP M n P v
  | add {u v : Fn} {s : List Int} {k : Int} : P s → SpP M n P v → (∀ i, i < n → M ∣ u i - (v i + k * ix s i)) → SpP M n P u
section
variable {M : Int} {n : Nat} {P P' : List Int → Prop} {S : List (List Int)} {u v : Fn} {k : Int} {s : List Int}
theorem SpP.congr (h : SpP M n P v) : ∀ {u : Fn}, (∀ i, i < n → M ∣ u i - v i) → SpP M n P u := by
  induction h with
  | zero h0 =>
    intro u hu
    exact .zero fun i hi => dv2 1 1 (hu i hi) (h0 i hi) (by grind)
  | @add u' v s j hs h1 h2 ih =>
    intro u hu
    refine .add (k := j) hs h1 fun i hi => dv2 1 1 (hu i hi) (h2 i hi) (by grind)
theorem SpP.plus (hu : SpP M n P u) (hv : SpP M n P v) : SpP M n P (fun i => u i + v i) := by
  induction hu with
  | zero h0 => exact hv.congr fun i hi => dv1 1 (h0 i hi) (by grind)
  | @add u v s j hs h1 h2 ih => exact .add (k := j) hs ih fun i hi => dv1 1 (h2 i hi) (by grind)
theorem SpP.smul (hu : SpP M n P u) (k : Int) : SpP M n P (fun i => k * u i) := by
  induction hu with
  | zero h0 => exact .zero fun i hi => dv1 k (h0 i hi) rfl
  | @add u v s j hs h1 h2 ih =>
    exact .add (k := k * j) hs ih fun i hi => dv1 k (h2 i hi) (by grind)
theorem SpP.comb (hu : SpP M n P u) (hv : SpP M n P v) (a b : Int) : SpP M n P (fun i => a * u i + b * v i) := (hu.smul a).plus (hv.smul b)
theorem SpP.mem (h : P s) : SpP M n P (ix s) := .add (v := fun _ => 0) (k := 1) h (.zero fun _ _ => dv0 rfl) fun _ _ => dv0 (by grind)
theorem SpP.sub (hv : SpP M n P v) (h : ∀ s, P s → SpP M n P' (ix s)) : SpP M n P' v := by
  induction hv with
  | zero h0 => exact .zero h0
  | @add u v s j hs h1 h2 ih => exact ((ih.plus ((h s hs).smul j))).congr h2
theorem SpP.mono (hv : SpP M n P v) (h : ∀ s, P s → P' s) : SpP M n P' v := hv.sub fun s hs => .mem (h s hs)
theorem spP_mem : SpP M n (· ∈ S) v ↔ Sp M n S v := by
  constructor
  · intro h
    induction h with
    | zero h0 => exact .zero h0
    | add hs _ h2 ih => exact .add hs ih h2
  · intro h
    induction h with
    | zero h0 => exact .zero h0
    | add hs _ h2 ih => exact .add hs ih h2
end
/-! ### words -/
theorem emod_sub {a M : Int} : M ∣ a % M - a := by
  rw [Int.emod_def]
  exact ⟨-(a / M), by grind⟩
theorem emod_eq_of {a b M : Int} (h : M ∣ a - b) (h0 : 0 ≤ b) (h1 : b < M) : a % M = b := by
  obtain ⟨k, e⟩ := h
  have : a = b + M * k := by omega
  rw [this, Int.add_mul_emod_self_left]
  exact Int.emod_eq_of_lt h0 h1
theorem pow2_dvd {p q : Int} {a b : Nat} (hp : p = 2 ^ a) (hq : q = 2 ^ b) (h : p ≤ q) : p ∣ q := by
  subst hp hq
  rcases Nat.lt_or_ge b a with l | l
  · have := pow_lt_pow l; omega
  · exact pow_dvd l
section
variable {w n m : Nat} {v r h : List Int} {c i : Nat}
theorem ix_red (hv : IsVec w n v) (hr : IsVec w n r) (hi : i < n) (h0 : 0 < ix r c) (h1 : 0 ≤ ix v c) : ix (redV w v c r) i = (ix v i - ix v c / ix r c * ix r i) % 2 ^ w := by
  unfold redV
  have hl := hv.1
  have hl' := hr.1
  split
  · rw [ix_sum (by omega) (by rw [(isVec_mul (w := w) hl').1]; exact hi), ix_mul (by omega)]
    generalize ix v c / ix r c = t
    have e1 := emod_sub (a := -t * ix r i) (M := 2 ^ w)
    have hp := pow_pos2 w
    apply emod_eq_of
    · have e2 := emod_sub (a := ix v i - t * ix r i) (M := 2 ^ w)
      exact dv2 1 (-1) e1 e2 (by grind)
    · exact Int.emod_nonneg _ (Int.ne_of_gt hp)
    · exact Int.emod_lt_of_pos _ hp
  · have t0 : ix v c / ix r c = 0 := by
      have := Int.ediv_nonneg h1 (Int.le_of_lt h0)
      omega
    rw [t0, Int.zero_mul, Int.sub_zero]
    obtain ⟨a, b⟩ := hv.at hi
    exact (Int.emod_eq_of_lt a b).symm
theorem red_mod (hv : IsVec w n v) (hr : IsVec w n r) (hi : i < n) (h0 : 0 < ix r c) (h1 : 0 ≤ ix v c) : (2 : Int) ^ w ∣ ix (redV w v c r) i - (ix v i - ix v c / ix r c * ix r i) := by
  rw [ix_red hv hr hi h0 h1]
  exact emod_sub
theorem mul_mod {f : Int} (hv : v.length = n) (hi : i < n) : (2 : Int) ^ w ∣ ix (mulV w v f) i - f * ix v i := by
  rw [ix_mul (by omega)]
  exact emod_sub
theorem sum_mod {b : List Int} (hv : v.length = n) (hb : b.length = n) (hi : i < n) : (2 : Int) ^ w ∣ ix (sumV w v b) i - (ix v i + ix b i) := by
  rw [ix_sum (by omega) (by omega)]
  exact emod_sub
/-- what the word at the pivot becomes -/
theorem piv_facts (hh : IsVec w n h) (hc : c < n) (hz : ∀ i, i < c → ix h i = 0) (h0 : ix h c ≠ 0) :
    IsVec w n (pivV w h c) ∧ (∀ i, i < c → ix (pivV w h c) i = 0) ∧ (∃ k, k < w ∧ ix (pivV w h c) c = 2 ^ k) ∧ ∃ a b : Int, (∀ i, i < n → (2 : Int) ^ w ∣ ix (pivV w h c) i - a * ix h i) ∧ ∀ i, i < n → (2 : Int) ^ w ∣ ix h i - b * ix (pivV w h c) i := by
  obtain ⟨a0, a1⟩ := hh.at hc
  have hl := hh.1
  have hx : 0 < ix h c := by omega
  obtain ⟨o1, o2, o3, o4⟩ := odd_part hx a1
  obtain ⟨l1, l2⟩ := lv_ex hx a1
  obtain ⟨i0, i1, i2⟩ := inv_ok (w := w) o1
  have m := fun i (hi : i < n) => mul_mod (w := w) (f := inv w (ix h c / 2 ^ lv (ix h c))) hl hi
  refine ⟨isVec_mul hl, fun i hi => ?_, ⟨lv (ix h c), l2, ?_⟩, inv w (ix h c / 2 ^ lv (ix h c)), ix h c / 2 ^ lv (ix h c), m, fun i hi => ?_⟩
  · unfold pivV
    rw [ix_mul (by omega), hz i hi]; simp
  · unfold pivV
    rw [ix_mul (by omega)]
    refine emod_eq_of ?_ (Int.le_of_lt (pow_pos2 _)) (pow_lt_pow l2)
    generalize inv w (ix h c / 2 ^ lv (ix h c)) = y at *
    generalize ix h c / 2 ^ lv (ix h c) = o at *
    generalize (2 : Int) ^ lv (ix h c) = p at *
    exact dv1 p i2 (by rw [o2]; grind)
  · have m1 := m i hi
    unfold pivV
    generalize inv w (ix h c / 2 ^ lv (ix h c)) = y at *
    generalize ix h c / 2 ^ lv (ix h c) = o at *
    exact dv2 (-o) (-(ix h i)) m1 i2 (by grind)
end
end DL
end
section
namespace DL
open WM
abbrev Gs (kp : Kp) (W : List (List Int)) (l : Nat) : List Int → Prop := fun s => (∃ d, l ≤ d ∧ kp d = some s) ∨ (s ∈ W ∧ ∀ i, i < l → ix s i = 0)
abbrev SpG (w m : Nat) (kp : Kp) (W : List (List Int)) (l : Nat) (v : Fn) : Prop := SpP (2 ^ w) m (Gs kp W l) v
structure SInv (w n m : Nat) (kp : Kp) (W : List (List Int)) : Prop where
  kept : ∀ c r, kp c = some r → IsVec w n r ∧ Lead w m r c
  wait : ∀ u ∈ W, IsVec w n u
  clo : ∀ c r, kp c = some r → SpG w m kp W (c + 1) (fun i => 2 ^ w / ix r c * ix r i)
def wt (m : Nat) (u : List Int) : Nat := match pcol u m with
  | some c => 3 ^ (m - c)
  | none => 1
def mu (m : Nat) (W : List (List Int)) : Nat := (W.map (wt m)).sum
def Stk (m : Nat) (W : List (List Int)) : Prop := W.length ≤ m + 1 ∧ ∀ j u, W[j]? = some u → ∀ i, i < j → i < m → ix u i = 0
/-- closed under sums and multiples -/
structure Lin (w n : Nat) (L : List Int → Prop) : Prop where
  sum : ∀ a b, a.length = n → b.length = n → L a → L b → L (sumV w a b)
  mul : ∀ a f, a.length = n → L a → L (mulV w a f)
theorem Lin.red {w n : Nat} {L : List Int → Prop} (l : Lin w n L) {a b : List Int} {c : Nat} (ha : a.length = n) (hb : b.length = n) (h : L a) (h' : L b) : L (redV w a c b) := by
  unfold redV
  split
  · exact l.sum _ _ ha (by simp [mulV, hb]) h (l.mul _ _ hb h')
  · exact h
theorem Lin.piv {w n : Nat} {L : List Int → Prop} (l : Lin w n L) {a : List Int} {c : Nat} (ha : a.length = n) (h : L a) : L (pivV w a c) := l.mul _ _ ha h
theorem Lin.tt {w n : Nat} : Lin w n (fun _ => True) := ⟨fun _ _ _ _ _ _ => trivial, fun _ _ _ _ => trivial⟩
def stepW (w : Nat) (kp : Kp) (c : Nat) (h : List Int) : List (List Int) := match kp c with
  | some old => if ix old c ≤ ix h c then [redV w h c old] else [redV w old c h, mulV w h (2 ^ w / ix h c)]
  | none => [mulV w h (2 ^ w / ix h c)]
def stepK (kp : Kp) (c : Nat) (h : List Int) : Kp := match kp c with
  | some old => if ix old c ≤ ix h c then kp else putP kp c h
  | none => putP kp c h
def stepB (kp : Kp) (c : Nat) (h : List Int) : Bool := match kp c with
  | some old => if ix old c ≤ ix h c then false else true
  | none => true
theorem wt_pos (m : Nat) (u : List Int) : 1 ≤ wt m u := by
  unfold wt
  split
  · exact Nat.pow_pos (by decide)
  · exact Nat.le_refl _
theorem wt_le {m c : Nat} {u : List Int} (hc : c < m) (h : ∀ i, i ≤ c → ix u i = 0) : 3 * wt m u ≤ 3 ^ (m - c) := by
  have e : 3 ^ (m - c) = 3 * 3 ^ (m - c - 1) := by
    have : m - c = (m - c - 1) + 1 := by omega
    rw [this, Nat.pow_succ]
    simp
    omega
  rw [e]
  refine Nat.mul_le_mul_left 3 ?_
  unfold wt
  split
  · rename_i d hd
    obtain ⟨h1, h2, h3⟩ := pcol_some.mp hd
    have : c < d := by
      rcases Nat.lt_or_ge c d with l | l
      · exact l
      · exact (h2 (h d l)).elim
    exact Nat.pow_le_pow_right (by decide) (by omega)
  · exact Nat.pow_pos (by decide)
section
variable {w n m : Nat} {kp : Kp} {W : List (List Int)} {h : List Int} {c : Nat}
theorem pow_dvd_self {k w : Nat} (h : k < w) : (2 : Int) ^ w / 2 ^ k * 2 ^ k = 2 ^ w := pow_mul_div (Nat.le_of_lt h)
/-- a waiting vector that is 0 in all columns goes -/
theorem step_none (hI : SInv w n m kp (W ++ [h])) (hp : pcol h m = none) : SInv w n m kp W ∧ (∀ v, SpG w m kp (W ++ [h]) 0 v ↔ SpG w m kp W 0 v) ∧ mu m W < mu m (W ++ [h]) := by
  have hz := pcol_none.mp hp
  have sub : ∀ l s, Gs kp (W ++ [h]) l s → SpG w m kp W l (ix s) := fun l s hs => by
    rcases hs with q | ⟨q1, q2⟩
    · exact .mem (.inl q)
    · rcases List.mem_append.mp q1 with q | q
      · exact .mem (.inr ⟨q, q2⟩)
      · simp at q
        subst q
        exact .zero fun i hi => dv0 (hz i hi)
  refine ⟨⟨hI.kept, fun u hu => hI.wait u (List.mem_append_left _ hu), fun c r e => (hI.clo c r e).sub (sub _)⟩, fun v => ⟨fun q => q.sub (sub 0), fun q => q.mono fun s hs => ?_⟩, ?_⟩
  · rcases hs with q | ⟨q1, q2⟩
    · exact .inl q
    · exact .inr ⟨List.mem_append_left _ q1, q2⟩
  · unfold mu
    rw [List.map_append, List.sum_append]
    have := wt_pos m h
    simp
    omega
theorem stk_none (hs : Stk m (W ++ [h])) : Stk m W := ⟨by have := hs.1; simp at this; omega, fun j u hj => hs.2 j u (by rw [List.getElem?_append_left (List.getElem?_eq_some_iff.mp hj).1]; exact hj)⟩
theorem step_some {h' : List Int} (hmn : m ≤ n) (hI : SInv w n m kp (W ++ [h])) (hp : pcol h m = some c) (e' : h' = pivV w h c) :
    SInv w n m (stepK kp c h') (W ++ stepW w kp c h') ∧ (∀ v, SpG w m kp (W ++ [h]) 0 v ↔ SpG w m (stepK kp c h') (W ++ stepW w kp c h') 0 v) ∧ mu m (W ++ stepW w kp c h') < mu m (W ++ [h]) ∧
      (∀ u ∈ stepW w kp c h', ∀ i, i ≤ c → ix u i = 0) ∧ IsVec w n h' ∧ Lead w m h' c := by
  obtain ⟨hcm, hne, hz⟩ := pcol_some.mp hp
  have hv : IsVec w n h := hI.wait h (by simp)
  obtain ⟨pv, pz, ⟨k, hk, pk⟩, a, b, ha, hb⟩ := piv_facts hv (by omega : c < n) hz hne
  rw [← e'] at pv pz pk ha hb
  clear e'
  have pp : 0 < ix h' c := by rw [pk]; exact pow_pos2 k
  have pl : Lead w m h' c := ⟨hcm, pz, k, hk, pk⟩
  have hW : ∀ u ∈ W, IsVec w n u := fun u hu => hI.wait u (List.mem_append_left _ hu)
  have hlt : 3 ^ (m - c) = wt m h := by unfold wt; rw [hp]
  -- the multiple that kills the pivot
  have mz : ∀ i, i ≤ c → ix (mulV w h' (2 ^ w / ix h' c)) i = 0 := fun i hi => by
    rw [ix_mul (by rw [pv.1]; omega)]
    rcases Nat.lt_or_eq_of_le hi with l | l
    · rw [pz i l]; simp
    · subst l
      rw [pk, pow_dvd_self hk]; simp
  have mm : ∀ i, i < m → (2 : Int) ^ w ∣ ix (mulV w h' (2 ^ w / ix h' c)) i - 2 ^ w / ix h' c * ix h' i := fun i hi => mul_mod pv.1 (by omega)
  have vm : IsVec w n (mulV w h' (2 ^ w / ix h' c)) := isVec_mul pv.1
  -- the general part
  have fin : ∀ (kp' : Kp) (W' : List (List Int)), (∀ c r, kp' c = some r → IsVec w n r ∧ Lead w m r c) → (∀ u ∈ W', IsVec w n u) → (∀ l s, Gs kp (W ++ [h]) l s → SpG w m kp' (W ++ W') l (ix s)) →
      (∀ d r, kp' d = some r → kp d = some r ∨ SpG w m kp' (W ++ W') (d + 1) (fun i => 2 ^ w / ix r d * ix r i)) → (∀ s, Gs kp' (W ++ W') 0 s → SpG w m kp (W ++ [h]) 0 (ix s)) → (∀ u ∈ W', ∀ i, i ≤ c → ix u i = 0) → W'.length ≤ 2 →
      SInv w n m kp' (W ++ W') ∧ (∀ v, SpG w m kp (W ++ [h]) 0 v ↔ SpG w m kp' (W ++ W') 0 v) ∧ mu m (W ++ W') < mu m (W ++ [h]) ∧ (∀ u ∈ W', ∀ i, i ≤ c → ix u i = 0) ∧ IsVec w n h' ∧ Lead w m h' c := by
    intro kp' W' f1 f2 f3 f4 f5 f6 f7
    refine ⟨⟨f1, fun u hu => ?_, fun d r e => ?_⟩, fun v => ⟨fun q => q.sub (f3 0), fun q => q.sub f5⟩, ?_, f6, pv, pl⟩
    · rcases List.mem_append.mp hu with q | q
      · exact hW u q
      · exact f2 u q
    · rcases f4 d r e with q | q
      · exact (hI.clo d r q).sub (f3 _)
      · exact q
    · unfold mu
      rw [List.map_append, List.map_append, List.sum_append, List.sum_append]
      have : (W'.map (wt m)).sum < 3 ^ (m - c) := by
        match W', f6, f7 with
        | [], _, _ => simp; exact Nat.pow_pos (by decide)
        | [x], g, _ =>
          have := wt_le hcm (g x (by simp))
          have := wt_pos m x
          simp; omega
        | [x, y], g, _ =>
          have := wt_le hcm (g x (by simp))
          have := wt_le hcm (g y (by simp))
          have := wt_pos m x
          have := wt_pos m y
          simp; omega
        | _ :: _ :: _ :: _, _, g => simp at g
      rw [hlt] at this
      simp
      omega
  -- the vector itself, by its multiple
  have hh : ∀ {kp' : Kp} {W' : List (List Int)} {l : Nat}, SpG w m kp' W' l (ix h') → SpG w m kp' W' l (ix h) := fun q => (q.smul b).congr fun i hi => hb i (by omega)
  have hh' : SpG w m kp (W ++ [h]) 0 (ix h') := ((SpP.mem (P := Gs kp (W ++ [h]) 0) (s := h) (.inr ⟨by simp, fun i hi => by omega⟩)).smul a).congr fun i hi => ha i (by omega)
  have lc : ∀ {l : Nat}, (∀ i, i < l → ix h i = 0) → l ≤ c := fun {l} q => by
    rcases Nat.lt_or_ge c l with g | g
    · exact (hne (q c g)).elim
    · exact g
  have mem0 : ∀ {W' : List (List Int)} {s : List Int}, s ∈ W → Gs kp (W ++ [h]) 0 s := fun q => .inr ⟨List.mem_append_left _ q, fun i hi => by omega⟩
  have pk' : ∀ d r, putP kp c h' d = some r → IsVec w n r ∧ Lead w m r d := fun d r e => by
    unfold putP at e
    by_cases q : d = c
    · rw [if_pos q] at e; cases e; subst q; exact ⟨pv, pl⟩
    · rw [if_neg q] at e; exact hI.kept d r e
  have pc : putP kp c h' c = some h' := by unfold putP; rw [if_pos rfl]
  have po : ∀ {d : Nat}, d ≠ c → putP kp c h' d = kp d := fun q => by unfold putP; rw [if_neg q]
  cases hk0 : kp c with
  | none =>
    have eW : stepW w kp c h' = [mulV w h' (2 ^ w / ix h' c)] := by unfold stepW; rw [hk0]
    have eK : stepK kp c h' = putP kp c h' := by unfold stepK; rw [hk0]
    rw [eW, eK]
    refine fin _ _ pk' (fun u hu => by simp at hu; subst hu; exact vm) (fun l s hs => ?_) (fun d r e => ?_) (fun s hs => ?_) (fun u hu => by simp at hu; subst hu; exact mz) (by simp)
    · rcases hs with ⟨d, q1, q2⟩ | ⟨q1, q2⟩
      · exact .mem (.inl ⟨d, q1, by rw [po (fun z => by subst z; rw [hk0] at q2; cases q2)]; exact q2⟩)
      · rcases List.mem_append.mp q1 with q | q
        · exact .mem (.inr ⟨List.mem_append_left _ q, q2⟩)
        · simp at q
          subst q
          exact hh (.mem (.inl ⟨c, lc q2, pc⟩))
    · by_cases q : d = c
      · subst q
        rw [pc] at e; cases e
        exact .inr ((SpP.mem (P := Gs (putP kp d h') (W ++ [mulV w h' (2 ^ w / ix h' d)]) (d + 1)) (.inr ⟨by simp, fun i hi => mz i (by omega)⟩)).congr fun i hi => dv1 (-1) (mm i hi) (by grind))
      · rw [po q] at e; exact .inl e
    · rcases hs with ⟨d, q1, q2⟩ | ⟨q1, q2⟩
      · by_cases q : d = c
        · subst q; rw [pc] at q2; cases q2; exact hh'
        · rw [po q] at q2; exact .mem (.inl ⟨d, q1, q2⟩)
      · rcases List.mem_append.mp q1 with q | q
        · exact .mem (mem0 (W' := []) q)
        · simp at q
          subst q
          exact (hh'.smul _).congr mm
  | some old =>
    obtain ⟨ov, ol⟩ := hI.kept c old hk0
    obtain ⟨_, oz, k2, hk2, ok⟩ := id ol
    have op := ol.pos
    have go : Gs kp (W ++ [h]) 0 old := .inl ⟨c, Nat.zero_le _, hk0⟩
    by_cases hle : ix old c ≤ ix h' c
    · have eW : stepW w kp c h' = [redV w h' c old] := by unfold stepW; rw [hk0]; simp [hle]
      have eK : stepK kp c h' = kp := by unfold stepK; rw [hk0]; simp [hle]
      rw [eW, eK]
      have rm : ∀ i, i < m → (2 : Int) ^ w ∣ ix (redV w h' c old) i - (ix h' i - ix h' c / ix old c * ix old i) := fun i hi => red_mod pv ov (by omega) op (Int.le_of_lt pp)
      have rz : ∀ i, i ≤ c → ix (redV w h' c old) i = 0 := fun i hi => by
        rw [ix_red pv ov (by omega) op (Int.le_of_lt pp)]
        rcases Nat.lt_or_eq_of_le hi with l | l
        · rw [pz i l, oz i l]; simp
        · subst l
          rw [Int.ediv_mul_cancel (pow2_dvd ok pk hle)]; simp
      refine fin _ _ hI.kept (fun u hu => by simp at hu; subst hu; exact isVec_red pv ov.1) (fun l s hs => ?_) (fun d r e => .inl e) (fun s hs => ?_) (fun u hu => by simp at hu; subst hu; exact rz) (by simp)
      · rcases hs with q | ⟨q1, q2⟩
        · exact .mem (.inl q)
        · rcases List.mem_append.mp q1 with q | q
          · exact .mem (.inr ⟨List.mem_append_left _ q, q2⟩)
          · simp at q
            subst q
            have lle := lc q2
            have s1 : SpG w m kp (W ++ [redV w h' c old]) l (ix (redV w h' c old)) := .mem (.inr ⟨by simp, fun i hi => rz i (by omega)⟩)
            have s2 : SpG w m kp (W ++ [redV w h' c old]) l (ix old) := .mem (.inl ⟨c, lle, hk0⟩)
            exact hh ((s1.comb s2 1 (ix h' c / ix old c)).congr fun i hi => dv1 (-1) (rm i hi) (by grind))
      · rcases hs with ⟨d, q1, q2⟩ | ⟨q1, q2⟩
        · exact .mem (.inl ⟨d, q1, q2⟩)
        · rcases List.mem_append.mp q1 with q | q
          · exact .mem (mem0 (W' := []) q)
          · simp at q
            subst q
            exact (hh'.comb (.mem go) 1 (-(ix h' c / ix old c))).congr fun i hi => dv1 1 (rm i hi) (by grind)
    · have eW : stepW w kp c h' = [redV w old c h', mulV w h' (2 ^ w / ix h' c)] := by unfold stepW; rw [hk0]; simp [hle]
      have eK : stepK kp c h' = putP kp c h' := by unfold stepK; rw [hk0]; simp [hle]
      rw [eW, eK]
      have rm : ∀ i, i < m → (2 : Int) ^ w ∣ ix (redV w old c h') i - (ix old i - ix old c / ix h' c * ix h' i) := fun i hi => red_mod ov pv (by omega) pp (Int.le_of_lt op)
      have rz : ∀ i, i ≤ c → ix (redV w old c h') i = 0 := fun i hi => by
        rw [ix_red ov pv (by omega) pp (Int.le_of_lt op)]
        rcases Nat.lt_or_eq_of_le hi with l | l
        · rw [pz i l, oz i l]; simp
        · subst l
          rw [Int.ediv_mul_cancel (pow2_dvd pk ok (by omega))]; simp
      refine fin _ _ pk' (fun u hu => by
        rcases List.mem_cons.mp hu with q | q
        · subst q; exact isVec_red ov pv.1
        · simp at q; subst q; exact vm) (fun l s hs => ?_) (fun d r e => ?_) (fun s hs => ?_) (fun u hu => by
        rcases List.mem_cons.mp hu with q | q
        · subst q; exact rz
        · simp at q; subst q; exact mz) (by simp)
      · have s1 : ∀ {l : Nat}, l ≤ c → SpG w m (putP kp c h') (W ++ [redV w old c h', mulV w h' (2 ^ w / ix h' c)]) l (ix h') := fun q => .mem (.inl ⟨c, q, pc⟩)
        have s2 : ∀ {l : Nat}, l ≤ c → SpG w m (putP kp c h') (W ++ [redV w old c h', mulV w h' (2 ^ w / ix h' c)]) l (ix (redV w old c h')) := fun q => .mem (.inr ⟨by simp, fun i hi => rz i (by omega)⟩)
        rcases hs with ⟨d, q1, q2⟩ | ⟨q1, q2⟩
        · by_cases q : d = c
          · subst q
            rw [hk0] at q2; cases q2
            exact ((s2 q1).comb (s1 q1) 1 (ix old d / ix h' d)).congr fun i hi => dv1 (-1) (rm i hi) (by grind)
          · exact .mem (.inl ⟨d, q1, by rw [po q]; exact q2⟩)
        · rcases List.mem_append.mp q1 with q | q
          · exact .mem (.inr ⟨List.mem_append_left _ q, q2⟩)
          · simp at q
            subst q
            exact hh (s1 (lc q2))
      · by_cases q : d = c
        · subst q
          rw [pc] at e; cases e
          exact .inr ((SpP.mem (P := Gs (putP kp d h') (W ++ [redV w old d h', mulV w h' (2 ^ w / ix h' d)]) (d + 1)) (s := mulV w h' (2 ^ w / ix h' d)) (.inr ⟨by simp, fun i hi => mz i (by omega)⟩)).congr fun i hi => dv1 (-1) (mm i hi) (by grind))
        · rw [po q] at e; exact .inl e
      · rcases hs with ⟨d, q1, q2⟩ | ⟨q1, q2⟩
        · by_cases q : d = c
          · subst q; rw [pc] at q2; cases q2; exact hh'
          · rw [po q] at q2; exact .mem (.inl ⟨d, q1, q2⟩)
        · rcases List.mem_append.mp q1 with q | q
          · exact .mem (mem0 (W' := []) q)
          · rcases List.mem_cons.mp q with q | q
            · subst q
              exact ((SpP.mem (n := m) (M := 2 ^ w) go).comb hh' 1 (-(ix old c / ix h' c))).congr fun i hi => dv1 1 (rm i hi) (by grind)
            · simp at q
              subst q
              exact (hh'.smul _).congr mm
theorem stk_some {W' : List (List Int)} (hs : Stk m (W ++ [h])) (hp : pcol h m = some c) (hW : W'.length ≤ 2) (hz : ∀ u ∈ W', ∀ i, i ≤ c → ix u i = 0) : Stk m (W ++ W') := by
  obtain ⟨hcm, hne, _⟩ := pcol_some.mp hp
  have hl : W.length ≤ c := by
    rcases Nat.lt_or_ge c W.length with g | g
    · exact (hne (hs.2 W.length h (by simp) c g hcm)).elim
    · exact g
  refine ⟨by simp; omega, fun j u hj i hi him => ?_⟩
  rcases Nat.lt_or_ge j W.length with g | g
  · rw [List.getElem?_append_left g] at hj
    exact hs.2 j u (by rw [List.getElem?_append_left g]; exact hj) i hi him
  · rw [List.getElem?_append_right g] at hj
    have hl2 := (List.getElem?_eq_some_iff.mp hj).1
    exact hz u (List.mem_of_getElem? hj) i (by omega)
theorem stepW_len (w : Nat) (kp : Kp) (c : Nat) (h : List Int) : (stepW w kp c h).length ≤ 2 := by
  unfold stepW
  split
  · split <;> simp
  · simp
theorem step_lin {L : List Int → Prop} (l : Lin w n L) (hk : ∀ c r, kp c = some r → IsVec w n r ∧ L r) (hv : h.length = n) (hL : L h) : (∀ d r, stepK kp c h d = some r → L r) ∧ ∀ u ∈ stepW w kp c h, L u := by
  have pk' : ∀ d r, putP kp c h d = some r → L r := fun d r e => by
    unfold putP at e
    by_cases q : d = c
    · rw [if_pos q] at e; cases e; exact hL
    · rw [if_neg q] at e; exact (hk d r e).2
  cases hk0 : kp c with
  | none =>
    have eW : stepW w kp c h = [mulV w h (2 ^ w / ix h c)] := by unfold stepW; rw [hk0]
    have eK : stepK kp c h = putP kp c h := by unfold stepK; rw [hk0]
    rw [eW, eK]
    exact ⟨pk', fun u hu => by simp at hu; subst hu; exact l.mul _ _ hv hL⟩
  | some old =>
    obtain ⟨o1, o2⟩ := hk c old hk0
    by_cases hle : ix old c ≤ ix h c
    · have eW : stepW w kp c h = [redV w h c old] := by unfold stepW; rw [hk0]; simp [hle]
      have eK : stepK kp c h = kp := by unfold stepK; rw [hk0]; simp [hle]
      rw [eW, eK]
      exact ⟨fun d r e => (hk d r e).2, fun u hu => by simp at hu; subst hu; exact l.red hv o1.1 hL o2⟩
    · have eW : stepW w kp c h = [redV w old c h, mulV w h (2 ^ w / ix h c)] := by unfold stepW; rw [hk0]; simp [hle]
      have eK : stepK kp c h = putP kp c h := by unfold stepK; rw [hk0]; simp [hle]
      rw [eW, eK]
      refine ⟨pk', fun u hu => ?_⟩
      rcases List.mem_cons.mp hu with q | q
      · subst q; exact l.red o1.1 hv o2 hL
      · simp at q; subst q; exact l.mul _ _ hv hL
end
end DL
end
section
namespace DL
open WM
/-- the kept rows from column l on -/
abbrev Kf (kp : Kp) (l : Nat) : List Int → Prop := fun s => ∃ d, l ≤ d ∧ kp d = some s
abbrev Sk (w m : Nat) (kp : Kp) (l : Nat) (v : Fn) : Prop := SpP (2 ^ w) m (Kf kp l) v
structure KOk (w n m : Nat) (kp : Kp) : Prop where
  kept : ∀ c r, kp c = some r → IsVec w n r ∧ Lead w m r c
  clo : ∀ c r, kp c = some r → Sk w m kp (c + 1) (fun i => 2 ^ w / ix r c * ix r i)
theorem gs_nil {kp : Kp} {l : Nat} {s : List Int} : Gs kp [] l s ↔ Kf kp l s := by simp [Gs]
theorem SInv.ok {w n m : Nat} {kp : Kp} (h : SInv w n m kp []) : KOk w n m kp := ⟨h.kept, fun c r e => (h.clo c r e).mono fun s hs => gs_nil.mp hs⟩
theorem KOk.inv {w n m : Nat} {kp : Kp} (h : KOk w n m kp) {W : List (List Int)} (hW : ∀ u ∈ W, IsVec w n u) : SInv w n m kp W := ⟨h.kept, hW, fun c r e => (h.clo c r e).mono fun s hs => .inl hs⟩
def remK (w : Nat) (kp : Kp) (cs : List Nat) (v : List Int) : List Int := cs.foldl (fun v c => redV w v c ((kp c).getD [])) v
section
variable {w n m : Nat} {kp : Kp} {v r : List Int} {c lo : Nat} {cs : List Nat}
theorem Kf.split (hk : kp c = some r) {f : Fn} (h : Sk w m kp c f) : ∃ k : Int, Sk w m kp (c + 1) (fun i => f i - k * ix r i) := by
  induction h with
  | zero h0 => exact ⟨0, .zero fun i hi => dv1 1 (h0 i hi) (by grind)⟩
  | @add u v s j hs h1 h2 ih =>
    obtain ⟨k, ih⟩ := ih
    obtain ⟨d, h3, h4⟩ := hs
    by_cases q : d = c
    · subst q
      rw [hk] at h4; cases h4
      exact ⟨k + j, ih.congr fun i hi => dv1 1 (h2 i hi) (by grind)⟩
    · exact ⟨k, .add (k := j) ⟨d, by omega, h4⟩ ih fun i hi => dv1 1 (h2 i hi) (by grind)⟩
theorem Kf.none (hk : kp c = none) {f : Fn} (h : Sk w m kp c f) : Sk w m kp (c + 1) f := h.mono fun s ⟨d, h1, h2⟩ => ⟨d, by
  have : d ≠ c := fun z => by subst z; rw [hk] at h2; cases h2
  omega, h2⟩
theorem Kf.zero (hK : KOk w n m kp) {f : Fn} {l i : Nat} (h : Sk w m kp l f) (hi : i < l) (him : i < m) : (2 : Int) ^ w ∣ f i := by
  induction h with
  | zero h0 => exact h0 i him
  | @add u v s j hs h1 h2 ih =>
    obtain ⟨d, h3, h4⟩ := hs
    have := (hK.kept d s h4).2.2.1 i (by omega)
    exact dv2 1 1 (h2 i him) ih (by rw [this]; grind)
/-- one reduction keeps to the span of what is left -/
theorem red_step (hmn : m ≤ n) (hK : KOk w n m kp) (hv : IsVec w n v) (hk : kp c = some r) (h : Sk w m kp c (ix v)) : Sk w m kp (c + 1) (ix (redV w v c r)) := by
  obtain ⟨rv, rl⟩ := hK.kept c r hk
  obtain ⟨hc, rz, e, he, hp⟩ := id rl
  have rp := rl.pos
  obtain ⟨v0, v1⟩ := hv.at (show c < n by omega)
  obtain ⟨k, h1⟩ := Kf.split hk h
  have h2 : (2 : Int) ^ w ∣ ix v c - k * ix r c := Kf.zero hK h1 (by omega) hc
  have hpd : ix r c ∣ ix v c := by
    have h3 : ix r c ∣ 2 ^ w := by rw [hp]; exact pow_dvd (Nat.le_of_lt he)
    exact dv2 1 k (Int.dvd_trans h3 h2) (Int.dvd_refl _) (by grind)
  have ht : ix v c / ix r c * ix r c = ix v c := Int.ediv_mul_cancel hpd
  generalize hT : ix v c / ix r c = t at *
  have h3 : (2 : Int) ^ w ∣ (t - k) * 2 ^ e := by
    rw [← ht, hp] at h2
    exact dv1 1 h2 (by grind)
  have h4 : (2 : Int) ^ (w - e) ∣ t - k := by
    have e1 : (2 : Int) ^ w = 2 ^ (w - e) * 2 ^ e := by rw [← Int.pow_add]; congr 1; omega
    rw [e1] at h3
    exact Int.dvd_of_mul_dvd_mul_right (Int.ne_of_gt (pow_pos2 e)) h3
  obtain ⟨j, hj⟩ := h4
  have h5 := hK.clo c r hk
  rw [hp, pow_div (Nat.le_of_lt he)] at h5
  refine (h1.comb h5 1 (-j)).congr fun i hi => ?_
  have h6 := red_mod (w := w) (c := c) hv rv (show i < n by omega) rp v0
  rw [hT] at h6
  have : t = k + 2 ^ (w - e) * j := by omega
  exact dv1 1 h6 (by rw [this]; grind)
theorem cons_facts (hp : (c :: cs).Pairwise (· < ·)) : cs.Pairwise (· < ·) ∧ ∀ d ∈ cs, c + 1 ≤ d := by
  obtain ⟨a, b⟩ := List.pairwise_cons.mp hp
  exact ⟨b, fun d hd => a d hd⟩
theorem rem_vec (hK : ∀ c r, kp c = some r → IsVec w n r) (hcs : ∀ c ∈ cs, (kp c).isSome = true) (hv : IsVec w n v) : IsVec w n (remK w kp cs v) := by
  induction cs generalizing v with
  | nil => exact hv
  | cons c cs ih =>
    refine ih (fun d hd => hcs d (List.mem_cons_of_mem _ hd)) ?_
    obtain ⟨r, e⟩ := Option.isSome_iff_exists.mp (hcs c List.mem_cons_self)
    show IsVec w n (redV w v c ((kp c).getD []))
    rw [e]
    exact isVec_red hv (hK c r e).1
/-- what every reduction keeps -/
theorem rem_pred {A : List Int → Prop} (hK : ∀ c r, kp c = some r → IsVec w n r) (hA : ∀ a c r, IsVec w n a → kp c = some r → A a → A (redV w a c r)) (hcs : ∀ c ∈ cs, (kp c).isSome = true) (hv : IsVec w n v) (h : A v) : A (remK w kp cs v) := by
  induction cs generalizing v with
  | nil => exact h
  | cons c cs ih =>
    obtain ⟨r, e⟩ := Option.isSome_iff_exists.mp (hcs c List.mem_cons_self)
    have e2 : (kp c).getD [] = r := by rw [e]; rfl
    refine ih (fun d hd => hcs d (List.mem_cons_of_mem _ hd)) ?_ ?_
    · show IsVec w n (redV w v c ((kp c).getD []))
      rw [e2]; exact isVec_red hv (hK c r e).1
    · show A (redV w v c ((kp c).getD []))
      rw [e2]; exact hA v c r hv e h
theorem rem_in (hmn : m ≤ n) (hK : KOk w n m kp) (hp : cs.Pairwise (· < ·)) (hlo : ∀ c ∈ cs, lo ≤ c) (hcs : ∀ d, lo ≤ d → ((kp d).isSome = true ↔ d ∈ cs)) (hv : IsVec w n v) (h : Sk w m kp lo (ix v)) : ∀ i, i < m → ix (remK w kp cs v) i = 0 := by
  induction cs generalizing v lo with
  | nil =>
    intro i hi
    have : (2 : Int) ^ w ∣ ix v i := by
      have e : ∀ f, Sk w m kp lo f → (2 : Int) ^ w ∣ f i := by
        intro f hf
        cases hf with
        | zero h0 => exact h0 i hi
        | add hs => obtain ⟨d, h1, h2⟩ := hs; have := (hcs d h1).mp (by rw [h2]; rfl); cases this
      exact e _ h
    obtain ⟨a, b⟩ := hv.at (show i < n by omega)
    show ix v i = 0
    rcases Int.lt_or_eq_of_le a with q | q
    · have := Int.le_of_dvd q this; omega
    · exact q.symm
  | cons c cs ih =>
    obtain ⟨hp1, hp2⟩ := cons_facts hp
    have hc := hlo c List.mem_cons_self
    obtain ⟨r, e⟩ := Option.isSome_iff_exists.mp ((hcs c hc).mpr List.mem_cons_self)
    have e2 : (kp c).getD [] = r := by rw [e]; rfl
    have h1 : Sk w m kp c (ix v) := h.mono fun s ⟨d, q1, q2⟩ => ⟨d, by
      rcases List.mem_cons.mp ((hcs d q1).mp (by rw [q2]; rfl)) with z | z
      · omega
      · have := hp2 d z; omega, q2⟩
    show ∀ i, i < m → ix (remK w kp cs (redV w v c ((kp c).getD []))) i = 0
    rw [e2]
    refine ih hp1 (lo := c + 1) hp2 (fun d hd => ?_) (isVec_red hv (hK.kept c r e).1.1) (red_step hmn hK hv e h1)
    rw [hcs d (by omega), List.mem_cons]
    exact ⟨fun q => q.resolve_left (by omega), .inr⟩
theorem rem_out (hmn : m ≤ n) (hK : KOk w n m kp) (hcs : ∀ c ∈ cs, (kp c).isSome = true) (hv : IsVec w n v) : Sk w m kp 0 (fun i => ix v i - ix (remK w kp cs v) i) := by
  refine rem_pred (A := fun x => Sk w m kp 0 (fun i => ix v i - ix x i)) (fun c r e => (hK.kept c r e).1) (fun a c r ha e h => ?_) hcs hv (.zero fun i _ => dv0 (by grind))
  obtain ⟨rv, rl⟩ := hK.kept c r e
  have hc := rl.1
  have := (ha.at (show c < n by omega)).1
  exact (h.comb (.mem (s := r) ⟨c, by omega, e⟩) 1 (ix a c / ix r c)).congr fun i hi => dv1 (-1) (red_mod ha rv (show i < n by omega) rl.pos this) (by grind)
/-- the remainder is 0 where the vector is in the span -/
theorem rem_iff (hmn : m ≤ n) (hK : KOk w n m kp) (hv : IsVec w n v) : (∀ i, i < m → ix (remK w kp (colsOf m kp) v) i = 0) ↔ Sk w m kp 0 (ix v) := by
  have hcs : ∀ d, (kp d).isSome = true ↔ d ∈ colsOf m kp := fun d => by
    unfold colsOf
    rw [List.mem_filter, List.mem_range]
    refine ⟨fun h => ⟨?_, h⟩, fun h => h.2⟩
    obtain ⟨r, e⟩ := Option.isSome_iff_exists.mp h
    exact (hK.kept d r e).2.1
  constructor
  · intro h
    have := rem_out hmn hK (fun c hc => (hcs c).mpr hc) hv
    exact this.congr fun i hi => dv0 (by rw [h i hi]; grind)
  · exact rem_in hmn hK (nodup_cols m kp) (fun c _ => Nat.zero_le c) (fun d _ => hcs d) hv
theorem rem_fix (hK : KOk w n m kp) (hcs : ∀ c ∈ cs, (kp c).isSome = true) (hv : IsVec w n v) (hmn : m ≤ n) {i : Nat} (hi : ∀ c ∈ cs, i < c) (hin : i < n) : ix (remK w kp cs v) i = ix v i := by
  induction cs generalizing v with
  | nil => rfl
  | cons c cs ih =>
    obtain ⟨r, e⟩ := Option.isSome_iff_exists.mp (hcs c List.mem_cons_self)
    have e2 : (kp c).getD [] = r := by rw [e]; rfl
    obtain ⟨rv, rl⟩ := hK.kept c r e
    have hc := rl.1
    show ix (remK w kp cs (redV w v c ((kp c).getD []))) i = _
    rw [e2, ih (fun d hd => hcs d (List.mem_cons_of_mem _ hd)) (isVec_red hv rv.1) (fun d hd => hi d (List.mem_cons_of_mem _ hd)), ix_red hv rv hin rl.pos (hv.at (by omega)).1, rl.2.1 i (hi c List.mem_cons_self)]
    obtain ⟨a, b⟩ := hv.at hin
    rw [Int.mul_zero, Int.sub_zero]
    exact Int.emod_eq_of_lt a b
theorem rem_small (hK : KOk w n m kp) (hp : cs.Pairwise (· < ·)) (hcs : ∀ c ∈ cs, (kp c).isSome = true) (hv : IsVec w n v) (hmn : m ≤ n) : ∀ c ∈ cs, ∀ r, kp c = some r → ix (remK w kp cs v) c < ix r c := by
  induction cs generalizing v with
  | nil => intro c hc; cases hc
  | cons c cs ih =>
    obtain ⟨hp1, hp2⟩ := cons_facts hp
    obtain ⟨r, e⟩ := Option.isSome_iff_exists.mp (hcs c List.mem_cons_self)
    have e2 : (kp c).getD [] = r := by rw [e]; rfl
    obtain ⟨rv, rl⟩ := hK.kept c r e
    obtain ⟨hc, _, k, hk, hpk⟩ := id rl
    have rp := rl.pos
    intro d hd s hs
    show ix (remK w kp cs (redV w v c ((kp c).getD []))) d < _
    rw [e2]
    have hcs' := fun d hd => hcs d (List.mem_cons_of_mem c hd)
    have hv' : IsVec w n (redV w v c r) := isVec_red hv rv.1
    rcases List.mem_cons.mp hd with q | q
    · subst q
      rw [e] at hs; cases hs
      rw [rem_fix hK hcs' hv' hmn (fun x hx => by have := hp2 x hx; omega) (by omega), ix_red hv rv (by omega) rp (hv.at (by omega)).1]
      have h1 : ix v d - ix v d / ix r d * ix r d = ix v d % ix r d := by rw [Int.emod_def, Int.mul_comm]
      rw [h1]
      have h2 := Int.emod_nonneg (ix v d) (Int.ne_of_gt rp)
      have h3 := Int.emod_lt_of_pos (ix v d) rp
      have h4 : ix r d < 2 ^ w := by rw [hpk]; exact pow_lt_pow hk
      rw [Int.emod_eq_of_lt h2 (by omega)]
      exact h3
    · exact ih hp1 hcs' hv' d q s hs
end
/-! ### the rows in the end -/
def rowK (w m : Nat) (kp : Kp) : List Nat → Kp
  | [] => fun _ => none
  | c :: cs => putP (rowK w m kp cs) c (remK w (rowK w m kp cs) (colsOf m (rowK w m kp cs)) ((kp c).getD []))
structure FI (w n m : Nat) (kp : Kp) (lo : Nat) (fk : Kp) : Prop where
  ok : KOk w n m fk
  dom : ∀ d, (fk d).isSome = true ↔ lo ≤ d ∧ (kp d).isSome = true
  red : ∀ d e r s, fk d = some r → fk e = some s → d < e → ix r e < ix s e
  span : ∀ l, lo ≤ l → ∀ f, Sk w m fk l f ↔ Sk w m kp l f
section
variable {w n m : Nat} {kp : Kp} {lo : Nat} {cs : List Nat}
theorem rowK_ok (hmn : m ≤ n) (hK : KOk w n m kp) (hp : cs.Pairwise (· < ·)) (hlo : ∀ c ∈ cs, lo ≤ c) (hcs : ∀ d, lo ≤ d → ((kp d).isSome = true ↔ d ∈ cs)) : FI w n m kp lo (rowK w m kp cs) := by
  induction cs generalizing lo with
  | nil =>
    refine ⟨⟨fun c r e => (by cases e), fun c r e => (by cases e)⟩, fun d => ⟨fun h => (by cases h), fun h => (by have := (hcs d h.1).mp h.2; cases this)⟩, fun d e r s h => (by cases h), fun l hl f => ⟨fun h => h.mono fun s hs => (by obtain ⟨d, _, h⟩ := hs; cases h), fun h => h.mono fun s hs => ?_⟩⟩
    obtain ⟨d, h1, h2⟩ := hs
    have := (hcs d (by omega)).mp (by rw [h2]; rfl)
    cases this
  | cons c cs ih =>
    obtain ⟨hp1, hp2⟩ := cons_facts hp
    have hc := hlo c List.mem_cons_self
    obtain ⟨r, e⟩ := Option.isSome_iff_exists.mp ((hcs c hc).mpr List.mem_cons_self)
    have e2 : (kp c).getD [] = r := by rw [e]; rfl
    obtain ⟨rv, rl⟩ := hK.kept c r e
    obtain ⟨hcm, rz, k, hk, hpk⟩ := id rl
    have I := ih hp1 (lo := c + 1) hp2 (fun d hd => by
      rw [hcs d (by omega), List.mem_cons]
      exact ⟨fun q => q.resolve_left (by omega), .inr⟩)
    show FI w n m kp lo (putP (rowK w m kp cs) c (remK w (rowK w m kp cs) (colsOf m (rowK w m kp cs)) ((kp c).getD [])))
    rw [e2]
    generalize rowK w m kp cs = fk at *
    have hfc : ∀ d ∈ colsOf m fk, (fk d).isSome = true := fun d hd => (List.mem_filter.mp hd).2
    have hgt : ∀ d ∈ colsOf m fk, c < d := fun d hd => by have := ((I.dom d).mp (hfc d hd)).1; omega
    have xv : IsVec w n (remK w fk (colsOf m fk) r) := rem_vec (fun c r e => (I.ok.kept c r e).1) hfc rv
    have xl : ∀ i, i ≤ c → ix (remK w fk (colsOf m fk) r) i = ix r i := fun i hi => rem_fix I.ok hfc rv hmn (fun d hd => by have := hgt d hd; omega) (by omega)
    have xs : ∀ d s, fk d = some s → ix (remK w fk (colsOf m fk) r) d < ix s d := fun d s hs =>
      rem_small I.ok (nodup_cols m fk) hfc rv hmn d (List.mem_filter.mpr ⟨List.mem_range.mpr (I.ok.kept d s hs).2.1, by rw [hs]; rfl⟩) s hs
    have xo : Sk w m fk (c + 1) (fun i => ix r i - ix (remK w fk (colsOf m fk) r) i) := (rem_out hmn I.ok hfc rv).mono fun s ⟨d, _, h2⟩ => ⟨d, ((I.dom d).mp (by rw [h2]; rfl)).1, h2⟩
    generalize remK w fk (colsOf m fk) r = x at *
    have pc : putP fk c x c = some x := by unfold putP; rw [if_pos rfl]
    have po : ∀ {d : Nat}, d ≠ c → putP fk c x d = fk d := fun q => by unfold putP; rw [if_neg q]
    have up : ∀ {l : Nat} {f : Fn}, c < l → (Sk w m (putP fk c x) l f ↔ Sk w m fk l f) := fun {l f} hl => by
      have e : ∀ s, Kf (putP fk c x) l s ↔ Kf fk l s := fun s => ⟨fun ⟨d, h1, h2⟩ => ⟨d, h1, by rw [po (by omega)] at h2; exact h2⟩, fun ⟨d, h1, h2⟩ => ⟨d, h1, by rw [po (by omega)]; exact h2⟩⟩
      exact ⟨fun h => h.mono fun s hs => (e s).mp hs, fun h => h.mono fun s hs => (e s).mpr hs⟩
    have xL : Lead w m x c := ⟨hcm, fun i hi => by rw [xl i (by omega)]; exact rz i hi, k, hk, by rw [xl c (Nat.le_refl c)]; exact hpk⟩
    have xp : ix x c = ix r c := xl c (Nat.le_refl c)
    refine ⟨⟨fun d s hs => ?_, fun d s hs => ?_⟩, fun d => ?_, fun d e' s t hs ht hde => ?_, fun l hl f => ?_⟩
    · by_cases q : d = c
      · subst q; rw [pc] at hs; cases hs; exact ⟨xv, xL⟩
      · rw [po q] at hs; exact I.ok.kept d s hs
    · by_cases q : d = c
      · subst q
        rw [pc] at hs; cases hs
        rw [up (by omega)]
        have h1 := (I.span (d + 1) (Nat.le_refl _) _).mpr (hK.clo d r e)
        rw [xp]
        exact (h1.comb xo 1 (-(2 ^ w / ix r d))).congr fun i _ => dv0 (by grind)
      · rw [po q] at hs
        have hd := ((I.dom d).mp (by rw [hs]; rfl)).1
        rw [up (by omega)]
        exact I.ok.clo d s hs
    · by_cases q : d = c
      · subst q; rw [pc, e]; simp [hc]
      · rw [po q, I.dom d]
        constructor
        · rintro ⟨h1, h2⟩; exact ⟨by omega, h2⟩
        · rintro ⟨h1, h2⟩
          have := (hcs d h1).mp h2
          rcases List.mem_cons.mp this with z | z
          · exact (q z).elim
          · exact ⟨hp2 d z, h2⟩
    · by_cases q : d = c
      · subst q
        rw [pc] at hs; cases hs
        rw [po (by omega)] at ht
        exact xs e' t ht
      · rw [po q] at hs
        have hd := ((I.dom d).mp (by rw [hs]; rfl)).1
        rw [po (by omega)] at ht
        exact I.red d e' s t hs ht hde
    · rcases Nat.lt_or_ge c l with g | g
      · rw [up g]; exact I.span l (by omega) f
      · have r1 : ∀ {l}, l ≤ c → Sk w m (putP fk c x) l (ix r) := fun {l} hl => by
          have a1 : Sk w m (putP fk c x) l (ix x) := .mem ⟨c, hl, pc⟩
          have a2 : Sk w m (putP fk c x) l (fun i => ix r i - ix x i) := (xo.mono fun s ⟨d, h1, h2⟩ => ⟨d, by omega, by rw [po (by omega)]; exact h2⟩)
          exact (a1.plus a2).congr fun i _ => dv0 (by grind)
        have r2 : Sk w m kp l (ix x) := by
          have a1 : Sk w m kp l (ix r) := .mem ⟨c, g, e⟩
          have a2 : Sk w m kp l (fun i => ix r i - ix x i) := (((I.span (c + 1) (Nat.le_refl _) _).mp xo).mono fun s ⟨d, h1, h2⟩ => ⟨d, by omega, h2⟩)
          exact (a1.comb a2 1 (-1)).congr fun i _ => dv0 (by grind)
        constructor
        · intro h
          refine h.sub fun s ⟨d, h1, h2⟩ => ?_
          by_cases q : d = c
          · subst q; rw [pc] at h2; cases h2; exact r2
          · rw [po q] at h2
            have hd := ((I.dom d).mp (by rw [h2]; rfl)).1
            have : Sk w m kp (c + 1) (ix s) := (I.span (c + 1) (Nat.le_refl _) _).mp (.mem ⟨d, hd, h2⟩)
            exact this.mono fun t ⟨d, h1, h2⟩ => ⟨d, by omega, h2⟩
        · intro h
          refine h.sub fun s ⟨d, h1, h2⟩ => ?_
          by_cases q : d = c
          · subst q; rw [e] at h2; cases h2; exact r1 h1
          · have : d ∈ c :: cs := (hcs d (by omega)).mp (by rw [h2]; rfl)
            have hd := hp2 d ((List.mem_cons.mp this).resolve_left q)
            have : Sk w m fk (c + 1) (ix s) := (I.span (c + 1) (Nat.le_refl _) _).mpr (.mem ⟨d, hd, h2⟩)
            refine this.mono fun t ⟨d', h1', h2'⟩ => ?_
            have g' := ((I.dom d').mp (by rw [h2']; rfl)).1
            exact ⟨d', by omega, by rw [po (by omega)]; exact h2'⟩
/-- the rows of such a table, in their order -/
def rowsOf (fk : Kp) (cs : List Nat) : List (List Int) := cs.map fun c => (fk c).getD []
theorem rows_mem {fk : Kp} (hlo : ∀ c ∈ cs, lo ≤ c) (hcs : ∀ d, lo ≤ d → ((fk d).isSome = true ↔ d ∈ cs)) {s : List Int} : s ∈ rowsOf fk cs ↔ Kf fk lo s := by
  unfold rowsOf
  rw [List.mem_map]
  constructor
  · rintro ⟨c, hc, e⟩
    obtain ⟨r, er⟩ := Option.isSome_iff_exists.mp ((hcs c (hlo c hc)).mpr hc)
    rw [er] at e
    exact ⟨c, hlo c hc, by rw [er]; exact congrArg some e⟩
  · rintro ⟨d, h1, h2⟩
    exact ⟨d, (hcs d h1).mp (by rw [h2]; rfl), by rw [h2]; rfl⟩
theorem rows_hb {fk : Kp} (hK : KOk w n m fk) (hr : ∀ d e r s, fk d = some r → fk e = some s → d < e → ix r e < ix s e) (hp : cs.Pairwise (· < ·)) (hlo : ∀ c ∈ cs, lo ≤ c) (hcs : ∀ d, lo ≤ d → ((fk d).isSome = true ↔ d ∈ cs)) : HB w m lo (rowsOf fk cs) := by
  induction cs generalizing lo with
  | nil => trivial
  | cons c cs ih =>
    obtain ⟨hp1, hp2⟩ := cons_facts hp
    have hc := hlo c List.mem_cons_self
    obtain ⟨r, e⟩ := Option.isSome_iff_exists.mp ((hcs c hc).mpr List.mem_cons_self)
    have e2 : (fk c).getD [] = r := by rw [e]; rfl
    have hcs' : ∀ d, c + 1 ≤ d → ((fk d).isSome = true ↔ d ∈ cs) := fun d hd => by
      rw [hcs d (by omega), List.mem_cons]
      exact ⟨fun q => q.resolve_left (by omega), .inr⟩
    show HB w m lo (((fk c).getD []) :: rowsOf fk cs)
    rw [e2]
    refine ⟨c, hc, (hK.kept c r e).2, ih hp1 hp2 hcs', fun s hs d hl => ?_, ?_⟩
    · obtain ⟨d', h1, h2⟩ := (rows_mem hp2 hcs').mp hs
      have : d' = d := (hK.kept d' s h2).2.inj hl
      subst this
      exact hr c d' r s e h2 (by omega)
    · exact spP_mem.mp ((hK.clo c r e).mono fun s hs => (rows_mem hp2 hcs').mpr hs)
theorem add_ex (hmn : m ≤ n) : ∀ (k : Nat) (kp : Kp) (W : List (List Int)), mu m W = k → SInv w n m kp W → ∃ kp', KOk w n m kp' ∧ ∀ v, SpG w m kp W 0 v ↔ Sk w m kp' 0 v := fun k => by
  induction k using Nat.strongRecOn with
  | ind k ih =>
    intro kp W hk hI
    rcases List.eq_nil_or_concat W with e | ⟨W0, h, e⟩
    · subst e
      exact ⟨kp, hI.ok, fun v => ⟨fun q => q.mono fun s hs => gs_nil.mp hs, fun q => q.mono fun s hs => gs_nil.mpr hs⟩⟩
    · rw [List.concat_eq_append] at e
      subst e
      cases hp : pcol h m with
      | none =>
        obtain ⟨a, b, c⟩ := step_none hI hp
        obtain ⟨kp', h1, h2⟩ := ih _ (hk ▸ c) kp W0 rfl a
        exact ⟨kp', h1, fun v => (b v).trans (h2 v)⟩
      | some c =>
        obtain ⟨a, b, d, _⟩ := step_some hmn hI hp rfl
        obtain ⟨kp', h1, h2⟩ := ih _ (hk ▸ d) _ _ rfl a
        exact ⟨kp', h1, fun v => (b v).trans (h2 v)⟩
end
theorem cols_iff {w n m : Nat} {kp : Kp} (hK : KOk w n m kp) (d : Nat) : (kp d).isSome = true ↔ d ∈ colsOf m kp := by
  unfold colsOf
  rw [List.mem_filter, List.mem_range]
  refine ⟨fun h => ⟨?_, h⟩, fun h => h.2⟩
  obtain ⟨r, e⟩ := Option.isSome_iff_exists.mp h
  exact (hK.kept d r e).2.1
/-- the rows of a closed table -/
def rowsF (w m : Nat) (kp : Kp) : List (List Int) := rowsOf (rowK w m kp (colsOf m kp)) (colsOf m kp)
theorem rowsF_ok {w n m : Nat} {kp : Kp} (hmn : m ≤ n) (hK : KOk w n m kp) : (∀ r ∈ rowsF w m kp, IsVec w n r) ∧ HB w m 0 (rowsF w m kp) ∧ ∀ f, SpB w m (rowsF w m kp) f ↔ Sk w m kp 0 f := by
  have I := rowK_ok (lo := 0) hmn hK (nodup_cols m kp) (fun _ _ => Nat.zero_le _) (fun d _ => cols_iff hK d)
  have hcs : ∀ d, 0 ≤ d → ((rowK w m kp (colsOf m kp) d).isSome = true ↔ d ∈ colsOf m kp) := fun d _ => by rw [I.dom d, ← cols_iff hK d]; simp
  have hm : ∀ s, s ∈ rowsF w m kp ↔ Kf (rowK w m kp (colsOf m kp)) 0 s := fun s => rows_mem (fun _ _ => Nat.zero_le _) hcs
  refine ⟨fun r hr => ?_, rows_hb I.ok I.red (nodup_cols m kp) (fun _ _ => Nat.zero_le _) hcs, fun f => ?_⟩
  · obtain ⟨d, _, h⟩ := (hm r).mp hr
    exact (I.ok.kept d r h).1
  · rw [← I.span 0 (Nat.le_refl _)]
    refine (spP_mem (M := 2 ^ w) (n := m)).symm.trans ?_
    exact ⟨fun h => h.mono fun s hs => (hm s).mp hs, fun h => h.mono fun s hs => (hm s).mpr hs⟩
/-- there is a basis -/
theorem bas_ex (w n : Nat) (S : List (List Int)) (hS : ∀ v ∈ S, IsVec w n v) : ∃ B, Bas w n B ∧ ∀ f, SpB w n B f ↔ SpB w n S f := by
  obtain ⟨kp, h1, h2⟩ := add_ex (w := w) (Nat.le_refl n) _ (fun _ => none) S rfl ⟨fun c r e => (by cases e), hS, fun c r e => (by cases e)⟩
  obtain ⟨a, b, c⟩ := rowsF_ok (Nat.le_refl n) h1
  refine ⟨rowsF w n kp, ⟨a, b⟩, fun f => ?_⟩
  rw [c f, ← h2 f]
  refine Iff.trans ?_ (spP_mem (M := 2 ^ w) (n := n))
  refine ⟨fun h => h.mono fun s hs => ?_, fun h => h.mono fun s hs => .inr ⟨hs, fun i hi => by omega⟩⟩
  rcases hs with ⟨d, _, q⟩ | ⟨q, _⟩
  · cases q
  · exact q
open Classical in
noncomputable def basF (w n : Nat) (S : List (List Int)) : List (List Int) := if h : ∃ B, Bas w n B ∧ ∀ f, SpB w n B f ↔ SpB w n S f then choose h else []
theorem basF_ok {w n : Nat} {S : List (List Int)} (hS : ∀ v ∈ S, IsVec w n v) : Bas w n (basF w n S) ∧ ∀ f, SpB w n (basF w n S) f ↔ SpB w n S f := by
  have h := bas_ex w n S hS
  unfold basF
  rw [dif_pos h]
  exact Classical.choose_spec h
theorem basF_eq {w n : Nat} {S B : List (List Int)} (hB : Bas w n B) (h : ∀ f, SpB w n B f ↔ SpB w n S f) : basF w n S = B := by
  have hx : ∃ B, Bas w n B ∧ ∀ f, SpB w n B f ↔ SpB w n S f := ⟨B, hB, h⟩
  unfold basF
  rw [dif_pos hx]
  obtain ⟨a, b⟩ := Classical.choose_spec hx
  exact Bas.unique a hB fun v => (b v).trans (h v).symm
end DL
end
section
namespace DL
open PySem PySem.Spec PyProof.Rows L2 WM
/-! ### methods by their bodies; more of blocks that change things -/
theorem metB {P : Program} {w : World} {K : PySem.W.Frag} {mg : Str → Option Value} {base : Heap} {x qual m : Str} {params : Arguments} {body : List Stmt} {scope : Scope} {f C : Addr} {fd : FuncData} {N ps : List Str} {k : Nat} {sp : Sp} (F : FunD K x qual params body scope [] [] f fd) (S : FnScope N ps scope)
    (c : Cls K C) (hm : Meth K C m f) (bd : ∀ (kV doc pm : Value) (an : Option Addr) (cdv ct : Value) (us : List Value), us.length = ps.length → bindArgs (PySem.W.fnOf x qual params body scope .none kV doc pm an cdv ct) ⟨us, []⟩ = pure (ps.zip us))
    (len : ∀ vs H Q E, sp vs H Q E → vs.length = ps.length)
    (hb : ∀ (cd : Value) (A : Around) (outer : List Env) (s : Shared) (H : Hp) (vs : List V) (Q : VK) (E : XK), Room k (A.deeper (envOfC qual scope s.heap.objs.size f cd)) → sp vs H Q E → wB (cxD P w K mg base N qual scope f cd A outer s H E) body { nx := fun _ H' => Q .non H', rt := Q } (L2.start N vs) H) :
    MetA P w K mg base (k + 1) C m sp := ⟨f, fd, ps, c, hm, fnB F S len hb, F.bindsN bd⟩
theorem slAll_len {K : PySem.W.Frag} {H : Hp} {vs : List V} {xs : List Slot} (h : SlAll K H vs xs) : vs.length = xs.length := by
  induction h with
  | nil => rfl
  | cons _ _ ih => simp [ih]
theorem immR.set {ρ : Rho} {i : Nat} {x : Slot} (h : immR ρ) (hx : immS x = true) : immR (ρ.set i (some x)) := fun j y hj => by
  rcases Nat.lt_or_ge j ρ.length with l | l
  · by_cases q : i = j
    · subst q
      rw [List.getElem?_set_self l] at hj
      cases hj; exact hx
    · rw [List.getElem?_set_ne q] at hj
      exact h j y hj
  · rw [List.getElem?_eq_none (by simpa using l)] at hj
    cases hj
theorem immR.setN {ρ : Rho} {i : Nat} (h : immR ρ) : immR (ρ.set i none) := fun j y hj => by
  rcases Nat.lt_or_ge j ρ.length with l | l
  · by_cases q : i = j
    · subst q
      rw [List.getElem?_set_self l] at hj
      cases hj
    · rw [List.getElem?_set_ne q] at hj
      exact h j y hj
  · rw [List.getElem?_eq_none (by simpa using l)] at hj
    cases hj
theorem immR_S {N : List Str} {xs : List Slot} (h : ∀ x ∈ xs, immS x = true) : immR (rhoS N xs) := fun j y hj => by
  unfold rhoS at hj
  have m := List.mem_of_getElem? hj
  rcases List.mem_append.mp m with q | q
  · obtain ⟨x, hx, e⟩ := List.mem_map.mp q
    cases e
    exact h _ hx
  · have := (List.mem_replicate.mp q).2
    cases this
theorem immR_nil : ∀ x ∈ ([] : List Slot), immS x = true := fun _ h => nomatch h
theorem immR_cons {x : Slot} {xs : List Slot} (h : immS x = true) (h' : ∀ y ∈ xs, immS y = true) : ∀ y ∈ x :: xs, immS y = true := fun y hy => by
  rcases List.mem_cons.mp hy with q | q
  · subst q; exact h
  · exact h' y q
section
variable {X : Cx} {F : Hp} {ρ : Rho} {a b c e f o tg : Expr} {es : List Expr} {rest sts us : List Stmt} {pos p2 p pos' apos : Pos} {d d1 d2 d3 : PyData} {ds : List PyData} {x fl : Str} {v u : V} {D : Ends} {q l : Addr}
/-- l.append(e) -/
theorem rb_append {ys : List V} (ho : EV X F ρ o (.ref l)) (hF : F l = some (.lst ys)) (ha : ED X F ρ e d) (hl : ys.length ≤ 100000) (hd : imm d = true) (hR : immR ρ)
    (k : ∀ H v, Keep (· = l) F H → TK X.K F H → H l = some (.lst (ys ++ [v])) → Dp X.K H v d → RB X H ρ rest D)
    (hbase : attributeBase o "append" X.env (eval o X.env) = eval o X.env := by rfl)
    (hfew : ((backTo pos (starEach [e] X.env)).all (fun x => !x.1) && (backToKw pos (keywordEach [] X.env)).all (fun x => x.1.isSome) && decide (([e] : List Expr).length + ([] : List Keyword).length + (if ([] : List Keyword).isEmpty then 0 else 1) < 30)) = true := by rfl)
    (hline : (apos.endLine == pos.line) = true := by rfl) (hs : starEach [e] X.env = (false, eval e X.env) :: starEach [] X.env := by rfl) (hplain : (backTo pos (starEach [] X.env)).any (·.1) = false := by rfl)
    (hsw : swapsWith (.Call (.Attribute o "append" apos) [e] [] pos) none pos'.line X.env = pure false := by rfl) :
    RB X F ρ (.Expr (.Call (.Attribute o "append" apos) [e] [] pos) pos' :: rest) D :=
  rb_exprW (fun σ H E => we_append E ho hF ha hl (fun v H' e dv => by
    have E' := E.mono e
    have hq := E'.2.2 _ _ hF
    have t : TK X.K H' (upd H' l (.lst (ys ++ [v]))) := (TK.refl H').upd (by rw [hq]; trivial)
    exact ⟨_, k _ v ((Keep.of E'.2.2).upd (.inl rfl)) ((TK.of E'.2.2).trans t) upd_same (dp_tk t _ hd dv), E'.tk t hR (Same.refl _)⟩) hbase hfew hline hs hplain) hsw
/-- name = l.pop() -/
theorem rb_pop (i : Nat) {ys : List V} (ho : EV X F ρ o (.ref l)) (hF : F l = some (.lst (ys ++ [v]))) (hv : Dp X.K F v d) (hd : imm d = true) (hR : immR ρ)
    (k : ∀ H, Keep (· = l) F H → TK X.K F H → H l = some (.lst ys) → RB X H (ρ.set i (some (.dat d))) rest D) (hN : X.N.Nodup) (hi : X.N[i]? = some x := by rfl) (hx : Loc X.env.scope x := by first | exact Or.inl rfl | exact Or.inr rfl)
    (hbase : attributeBase o "pop" X.env (eval o X.env) = eval o X.env := by rfl) (hline : (apos.endLine == pos.line) = true := by rfl)
    (hs : swapsWith (.Call (.Attribute o "pop" apos) [] [] pos) (some (.Name x p)) pos'.line X.env = pure false := by rfl) (hf : X.fn x = true ∨ X.env.scope.names.lookup x = some .local := by first | exact .inl rfl | exact .inr rfl) :
    RB X F ρ (.Assign [.Name x p] (.Call (.Attribute o "pop" apos) [] [] pos) pos' :: rest) D :=
  rb_setW i (fun σ H E => we_pop E ho hF (fun H' e => by
    have E' := E.mono e
    have hq := E'.2.2 _ _ hF
    have t : TK X.K H' (upd H' l (.lst ys)) := (TK.refl H').upd (by rw [hq]; trivial)
    exact ⟨_, .dat d, k _ ((Keep.of E'.2.2).upd (.inl rfl)) ((TK.of E'.2.2).trans t) upd_same, E'.tk t hR (Same.refl _), dp_tk t _ hd (dp_mono E'.2.2 hv)⟩) hbase hline) hN hi hx hs hf
/-- o.f = e -/
theorem rb_fld {q C dx : Addr} {fs : List (Str × V)} (ho : EV X F ρ o (.ref q)) (hF : F q = some (.ins C dx fs)) (c : Cls X.K C) (n : NoAttr X.K C fl) (hl : fs.length < 1000) (hv : ED X F ρ e d) (hd : imm d = true) (hR : immR ρ)
    (k : ∀ H v, Keep (· = q) F H → TK X.K F H → H q = some (.ins C dx (putF fl v fs)) → Dp X.K H v d → RB X H ρ rest D)
    (hs : swapsWith e (some (.Attribute o fl pos')) pos.line X.env = pure false := by rfl) : RB X F ρ (.Assign [.Attribute o fl pos'] e pos :: rest) D :=
  rb_step fun σ H E => by
    refine ofS (ps_fld pe_w pe_w hs) ?_
    refine hv σ H _ E fun v H1 e1 dv => ?_
    refine ho σ H1 _ (E.mono e1) fun H2 e2 => ?_
    have E2 := (E.mono e1).mono e2
    have hq := E2.2.2 _ _ hF
    refine ⟨q, C, dx, fs, rfl, hq, c, n, hl, ?_⟩
    have t : TK X.K H2 (upd H2 q (.ins C dx (putF fl v fs))) := (TK.refl H2).upd (by rw [hq]; trivial)
    exact k _ v ((Keep.of E2.2.2).upd (.inl rfl)) ((TK.of E2.2.2).trans t) upd_same (dp_tk t _ hd (dp_mono e2 dv)) σ _ (E2.tk t hR (Same.refl _))
/-- o.f = {} -/
theorem rb_fldD {q C dx : Addr} {fs : List (Str × V)} (ho : EV X F ρ o (.ref q)) (hF : F q = some (.ins C dx fs)) (c : Cls X.K C) (n : NoAttr X.K C fl) (hl : fs.length < 1000) (hR : immR ρ)
    (k : ∀ H a, Keep (· = q) F H → TK X.K F H → F a = none → a ≠ q → H a = some (.dK []) → H q = some (.ins C dx (putF fl (.ref a) fs)) → RB X H ρ rest D)
    (hs : swapsWith (.Dict [] [] p2) (some (.Attribute o fl pos')) pos.line X.env = pure false := by rfl) : RB X F ρ (.Assign [.Attribute o fl pos'] (.Dict [] [] p2) pos :: rest) D :=
  rb_step fun σ H E => by
    refine ofS (ps_fld pe_w pe_dnewK hs) ?_
    intro a ha
    have E1 := E.mono (Same.new (o := .dK []) ha)
    refine ho σ _ _ E1 fun H2 e2 => ?_
    have E2 := E1.mono e2
    have hq := E2.2.2 _ _ hF
    refine ⟨q, C, dx, fs, rfl, hq, c, n, hl, ?_⟩
    have haF : F a = none := by
      cases z : F a with
      | none => rfl
      | some o => have := E.2.2 _ _ z; rw [ha] at this; cases this
    have ne : a ≠ q := fun z => by subst z; rw [hF] at haF; cases haF
    have t : TK X.K H2 (upd H2 q (.ins C dx (putF fl (.ref a) fs))) := (TK.refl H2).upd (by rw [hq]; trivial)
    exact k _ a ((Keep.of E2.2.2).upd (.inl rfl)) ((TK.of E2.2.2).trans t) haF ne (by rw [upd_ne ne]; exact e2 _ _ upd_same) upd_same σ _ (E2.tk t hR (Same.refl _))
/-- name = {} -/
theorem rb_setD (i : Nat) (k : ∀ H a, Same F H → F a = none → H a = some (.dK []) → RB X H (ρ.set i (some (.val (.ref a)))) rest D) (hN : X.N.Nodup) (hi : X.N[i]? = some x := by rfl) (hx : Loc X.env.scope x := by first | exact Or.inl rfl | exact Or.inr rfl)
    (hs : swapsWith (.Dict [] [] p2) (some (.Name x p)) pos.line X.env = pure false := by rfl) (hf : X.fn x = true ∨ X.env.scope.names.lookup x = some .local := by first | exact .inl rfl | exact .inr rfl) : RB X F ρ (.Assign [.Name x p] (.Dict [] [] p2) pos :: rest) D :=
  rb_setW i (fun σ H E => ofE pe_dnewK (fun a ha => by
    have haF : F a = none := by
      cases z : F a with
      | none => rfl
      | some o => have := E.2.2 _ _ z; rw [ha] at this; cases this
    have e := Same.new (o := .dK []) ha
    exact ⟨_, .val (.ref a), k _ a (E.2.2.trans e) haF upd_same, (E.mono e).anchor, rfl⟩)) hN hi hx hs hf
/-- name = [e, ..] as an object of its own -/
theorem rb_setL (i : Nat) (h : EA X F ρ es ds) (hl : ds.length ≤ 100000) (k : ∀ H a ys, Same F H → F a = none → H a = some (.lst ys) → DpAll X.K H ys ds → RB X H (ρ.set i (some (.val (.ref a)))) rest D) (hN : X.N.Nodup) (hi : X.N[i]? = some x := by rfl) (hx : Loc X.env.scope x := by first | exact Or.inl rfl | exact Or.inr rfl)
    (hs : swapsWith (.List es p2) (some (.Name x p)) pos.line X.env = pure false := by rfl) (hf : X.fn x = true ∨ X.env.scope.names.lookup x = some .local := by first | exact .inl rfl | exact .inr rfl) : RB X F ρ (.Assign [.Name x p] (.List es p2) pos :: rest) D :=
  rb_setW i (fun σ H E => by
    refine ofE (pe_lst pa_w) ?_
    refine h σ H _ E fun vs H1 e1 dvs => ⟨by rw [dpA_len dvs]; exact Nat.le_trans hl (by decide), fun a ha => ?_⟩
    have haF : F a = none := by
      cases z : F a with
      | none => rfl
      | some o => have := (E.mono e1).2.2 _ _ z; rw [ha] at this; cases this
    have e := Same.new (o := .lst vs) ha
    exact ⟨_, .val (.ref a), k _ a vs ((E.2.2.trans e1).trans e) haF upd_same (dpA_mono e dvs), ((E.mono e1).mono e).anchor, rfl⟩) hN hi hx hs hf
/-- a or b, a doing what it does -/
theorem we_or {σ : L2.St} {H : Hp} {Q : VK} (h : wE X a σ H fun v H' => ∃ b : Bool, v = .bl b ∧ (b = true → Q (.bl true) H') ∧ (b = false → wE X (.BoolOp .Or (c :: es) pos) σ H' Q)) : wE X (.BoolOp .Or (a :: c :: es) pos) σ H Q := by
  refine ofE (pe_or pe_w pe_w) ?_
  refine h.mono fun v H' ⟨b, e, h1, h2⟩ => ⟨b, e, ?_⟩
  cases b with
  | true => subst e; rw [if_pos rfl]; exact h1 rfl
  | false => rw [if_neg Bool.false_ne_true]; exact h2 rfl
/-- a statement, by data -/
def SD (X : Cx) (F : Hp) (ρ : Rho) (st : Stmt) (Kn : Rho → Prop) (P : PyData → Prop) : Prop :=
  ∀ σ H (D : Ends), EnvOk X.K F H σ ρ → (∀ d v H', P d → Same H H' → Dp X.K H' v d → D.rt v H') → (∀ ρ' σ' H', Kn ρ' → Same H H' → EnvOk X.K F H' σ' ρ' → D.nx σ' H') → wS X st D σ H
theorem sd_for {P : PyData → Prop} {Kn : Rho → Prop} {ι : Type} {items : List ι} {enc : ι → PyData} {tg iter : Expr} {g : TG} {js : List Nat} (en : ι → Rho → Rho) (Pv : Nat → Rho → Prop) (hc : X.calm = true) (hp : PassesOwn (model X.prog X.w) X.A X.env X.xe) (hi : IT X F ρ tg iter (items.map enc)) (hg : PG X tg g)
    (h0 : Pv 0 ρ) (tgo : ∀ i ∈ items, ∀ ρ', TgOk X.K g js ρ' (enc i) (en i ρ'))
    (hb : ∀ (i : Nat) (a : ι) ρ', items[i]? = some a → Pv i ρ' → BD X F (en a ρ') sts (Pv (i + 1)) P) (hd : ∀ ρ', Pv items.length ρ' → Kn ρ')
    (hs : ∀ x, foldedSetIterable iter X.env x = pure x := by intro _; rfl) : SD X F ρ (.For tg iter sts [] pos) Kn P := fun σ H D E k1 k2 => by
  refine ofS (ps_for hp hc pi_w hg pb_w hs) ?_
  refine hi σ H _ E fun J H1 e1 w => ?_
  let n := items.length
  have hn : (items.map enc).length = n := by simp [n]
  refine ⟨fun i m σ' H' => m = n - i ∧ i ≤ n ∧ Same H1 H' ∧ ∃ ρ', EnvOk X.K F H' σ' ρ' ∧ Pv i ρ', ⟨n, by simp, Nat.zero_le _, Same.refl _, ρ, E.mono e1, h0⟩, ?_⟩
  rintro i m σ' H' ⟨rfl, hin, s1, ρ', E', pv⟩
  obtain ⟨w1, w2, w3⟩ := w H' s1
  by_cases hlt : i < n
  · right
    refine ⟨w1 i (by omega), fun σ' H' => i + 1 ≤ n ∧ Same H1 H' ∧ ∃ ρ', EnvOk X.K F H' σ' ρ' ∧ Pv (i + 1) ρ', fun σ' H' q => ⟨n - (i + 1), by omega, rfl, q⟩, fun x H2 y => ?_⟩
    have hit : items[i]? = some items[i] := List.getElem?_eq_getElem hlt
    have hmem : items[i] ∈ items := List.getElem_mem hlt
    obtain ⟨s2, dx⟩ := w3 i x H2 (enc items[i]) (by rw [List.getElem?_map, hit]; rfl) y
    refine tgo _ hmem ρ' F σ' H2 x _ (E'.mono s2) dx fun σ2 E3 _ => ?_
    refine hb i _ ρ' hit pv σ2 H2 _ E3 (fun d v H3 q e3 => k1 d v H3 q (((e1.trans s1).trans s2).trans e3)) fun ρ3 σ3 H3 q e3 E4 => ⟨hlt, (s1.trans s2).trans e3, ρ3, E4, q⟩
  · left
    have e : i = n := by omega
    subst e
    rw [hn] at w2
    exact ⟨w2, k2 ρ' σ' H' (hd ρ' pv) (e1.trans s1) E'⟩
theorem rb_sd {st : Stmt} {Kn : Rho → Prop} {P : PyData → Prop} (h : SD X F ρ st Kn P) (h1 : ∀ d v H', P d → Same F H' → Dp X.K H' v d → D.rt v H') (h2 : ∀ ρ', Kn ρ' → RB X F ρ' rest D) : RB X F ρ (st :: rest) D :=
  rb_step fun σ H E => h σ H _ E (fun d v H' q e dv => h1 d v H' q (E.2.2.trans e) dv) fun ρ' σ' H' q e E' => h2 ρ' q σ' H' E'
end
end DL
end
section
namespace DL
open PySem PySem.Spec PyProof.Rows L2 WM
theorem Keep.same {S : Addr → Prop} {H H' : Hp} (k : Keep S H H') (h : ∀ b, S b → H b = none) : Same H H' := fun b o e => k b o e fun s => by rw [h b s] at e; cases e
theorem dpA_inv {K : PySem.W.Frag} {H : Hp} {d : PyData} : ∀ {ds : List PyData} {vs : List V}, DpAll K H vs (ds ++ [d]) → ∃ us v, vs = us ++ [v] ∧ DpAll K H us ds ∧ Dp K H v d
  | [], _, h => by
    obtain ⟨v, rfl, hv⟩ := dpA1 h
    exact ⟨[], v, rfl, .nil, hv⟩
  | _ :: ds, _, .cons h1 h2 => by
    obtain ⟨us, v, rfl, a, b⟩ := dpA_inv h2
    exact ⟨_ :: us, v, rfl, .cons h1 a, b⟩
theorem slAll_mono {K : PySem.W.Frag} {H H' : Hp} (e : Same H H') {vs : List V} {xs : List Slot} (h : SlAll K H vs xs) : SlAll K H' vs xs := by
  induction h with
  | nil => exact .nil
  | cons h1 _ ih => exact .cons (h1.mono e) ih
theorem slAll_ds {K : PySem.W.Frag} {H : Hp} : ∀ {vs : List V} {ds : List PyData}, DpAll K H vs ds → SlAll K H vs (ds.map .dat)
  | _, _, .nil => .nil
  | _, _, .cons h1 h2 => .cons h1 (slAll_ds h2)
theorem imm_mat (S : List (List Int)) : immL (S.map fun v => dV v) = true := immL_iff.mpr fun d hd => by obtain ⟨v, _, rfl⟩ := List.mem_map.mp hd; exact imm_dV v
/-- a def that makes objects of its own: what it promises is data all the same -/
theorem calRB {P : Program} {w : World} {K : PySem.W.Frag} {mg : Str → Option Value} {base : Heap} {x : Str} {params : Arguments} {body : List Stmt} {scope : Scope} {f : Addr} {fd : FuncData} {N ps : List Str} {k : Nat} {R : RelF} (F : FunD K x x params body scope [] [] f fd) (hm : mg x = some (.ref f)) (S : FnScope N ps scope)
    (bd : ∀ (kV doc pm : Value) (an : Option Addr) (cdv ct : Value) (us : List Value), us.length = ps.length → bindArgs (PySem.W.fnOf x x params body scope .none kV doc pm an cdv ct) ⟨us, []⟩ = pure (ps.zip us))
    (len : ∀ ds P, R ds P → ds.length = ps.length)
    (hb : ∀ (cd : Value) (A : Around) (outer : List Env) (s : Shared) (H : Hp) (E : XK) ds P' vs, Room k (A.deeper (envOfC x scope s.heap.objs.size f cd)) → R ds P' → DpAll K H vs ds →
      wB (cxD P w K mg base N x scope f cd A outer s H E) body { nx := fun _ H' => P' .none ∧ Same H H', rt := fun v H' => ∃ d, P' d ∧ Same H H' ∧ Dp K H' v d } (L2.start N vs) H) :
    Cal P w K mg base (k + 1) x (spR K R) := by
  refine ⟨f, fd, ps, ?_, hm, F.kp, F.bindsN bd⟩
  refine F.ok S (fun vs H Q E h => ?_) (fun cdv A outer s H vs Q E hr h => ?_)
  · obtain ⟨ds, P', h1, h2, _⟩ := h
    rw [dpA_len h1, len ds P' h2]
  · obtain ⟨ds, P', h1, h2, k⟩ := h
    refine ⟨wB (cxD P w K mg base N x scope f cdv A outer s H E) body, PSs.nox pb_w, ?_⟩
    have hB := hb cdv A outer s H E ds P' vs hr h2 h1
    exact fun pins s I => thn (hB pins s I) fun fl s' z => by
      cases fl with
      | next =>
        obtain ⟨σ4, H4, I4, z1, z2⟩ := z
        exact ⟨σ4, H4, I4, k .none _ H4 z1 z2 .non⟩
      | ret v =>
        obtain ⟨u, σ4, H4, I4, ru, d, z1, z2, z3⟩ := z
        exact ⟨u, σ4, H4, I4, ru, k d u H4 z1 z2 z3⟩
      | cont => exact z
      | brk => exact z
/-- a class that may be made by its name -/
structure MkA (P : Program) (w : World) (K : PySem.W.Frag) (mg : Str → Option Value) (base : Heap) (k : Nat) (C : Addr) (x : Str) (sp : Sp) : Prop where
  ex : ∃ (f : Addr) (fd : FuncData) (ps : List Str), Mk K C f ∧ mg x = some (.ref C) ∧ FnOk P w K mg base CX0 k f fd ps sp ∧ Binds K fd ps []
theorem mkB {P : Program} {w : World} {K : PySem.W.Frag} {mg : Str → Option Value} {base : Heap} {x qual y : Str} {params : Arguments} {body : List Stmt} {scope : Scope} {f C : Addr} {fd : FuncData} {N ps : List Str} {k : Nat} {sp : Sp} (F : FunD K x qual params body scope [] [] f fd) (S : FnScope N ps scope)
    (c : Mk K C f) (hy : mg y = some (.ref C)) (bd : ∀ (kV doc pm : Value) (an : Option Addr) (cdv ct : Value) (us : List Value), us.length = ps.length → bindArgs (PySem.W.fnOf x qual params body scope .none kV doc pm an cdv ct) ⟨us, []⟩ = pure (ps.zip us))
    (len : ∀ vs H Q E, sp vs H Q E → vs.length = ps.length)
    (hb : ∀ (cd : Value) (A : Around) (outer : List Env) (s : Shared) (H : Hp) (vs : List V) (Q : VK) (E : XK), Room k (A.deeper (envOfC qual scope s.heap.objs.size f cd)) → sp vs H Q E → wB (cxD P w K mg base N qual scope f cd A outer s H E) body { nx := fun _ H' => Q .non H', rt := Q } (L2.start N vs) H) :
    MkA P w K mg base (k + 1) C y sp := ⟨f, fd, ps, c, hy, fnB F S len hb, F.bindsN bd⟩
section
variable {X : Cx} {F : Hp} {ρ : Rho} {a b c e f o tg : Expr} {es : List Expr} {pos p : Pos} {xs : List Slot} {x : Str} {C : Addr} {sp : Sp} {k j : Nat}
/-- C(e, ..) -/
theorem we_make {σ : L2.St} {H : Hp} {Q : VK} (c : MkA X.prog X.w X.K X.mg X.base k C x sp) (hr : Room j X.A) (hk : k + 1 ≤ j) (E : EnvOk X.K F H σ ρ) (ha : EAS X F ρ (e :: es) xs)
    (h : ∀ vs H' q dx, Same H H' → H' q = none → H' dx = none → dx ≠ q → SlAll X.K (upd (upd H' dx (.own q)) q (.ins C dx [])) vs xs → sp (.ref q :: vs) (upd (upd H' dx (.own q)) q (.ins C dx [])) (fun v H2 => v = .non ∧ Q (.ref q) H2) E0)
    (hg : Gl X x := by rfl) (hdb : (x == ("__debug__" : Str)) = false := by decide) (hst : starEach (e :: es) X.env = (false, eval e X.env) :: starEach es X.env := by rfl) (hpl : (backTo pos (starEach es X.env)).any (·.1) = false := by rfl) :
    wE X (.Call (.Name x p) (e :: es) [] pos) σ H Q := by
  obtain ⟨f, fd, ps, M, hm, FO, bd⟩ := c.ex
  refine ofE (pe_make M FO (hr.mono hk) hg hm bd .nil pass0 pa_w hdb hst hpl) ?_
  refine ha σ H _ E fun vs H1 e1 dvs q dx hq hd ne => ?_
  rw [List.append_nil]
  have e2 : Same H1 (upd H1 dx (.own q)) := Same.new hd
  have e3 : Same (upd H1 dx (.own q)) (upd (upd H1 dx (.own q)) q (.ins C dx [])) := Same.new (by rw [upd_ne (Ne.symm ne)]; exact hq)
  exact h vs H1 q dx e1 hq hd ne (slAll_mono (e2.trans e3) dvs)
end
end DL
end
section
namespace DL
open PySem PySem.Spec PyProof.Rows L2 WM
/-! ### data that is compared -/
structure Enc {ι : Type} (f : ι → PyData) (k : Nat) : Prop where
  lay : ∀ i, (f i).canLay0 = true
  dep : ∀ i, (f i).depth ≤ k
  eq : ∀ i j, PyData.eqv (f i) (f j) = true ↔ i = j
theorem Enc.int : Enc PyData.int 1 := ⟨fun _ => by simp [PyData.canLay0], fun _ => by simp [PyData.depth], fun i j => by simp [PyData.eqv]⟩
section
variable {ι : Type} {f : ι → PyData} {k : Nat}
theorem Enc.layA (h : Enc f k) : ∀ xs : List ι, PyData.canLayAll0 (xs.map f) = true
  | [] => by simp [PyData.canLayAll0]
  | x :: xs => by simp [PyData.canLayAll0, h.lay x, h.layA xs]
theorem Enc.depA (h : Enc f k) : ∀ xs : List ι, PyData.depthAll (xs.map f) ≤ k
  | [] => by simp [PyData.depthAll]
  | x :: xs => by
    have := h.dep x
    have := h.depA xs
    simp [PyData.depthAll]; omega
theorem Enc.eqA (h : Enc f k) : ∀ xs ys : List ι, PyData.eqvAll (xs.map f) (ys.map f) = true ↔ xs = ys
  | [], [] => by simp [PyData.eqvAll]
  | [], y :: ys => by simp [PyData.eqvAll]
  | x :: xs, [] => by simp [PyData.eqvAll]
  | x :: xs, y :: ys => by simp [PyData.eqvAll, h.eq x y, h.eqA xs ys]
theorem Enc.tup (h : Enc f k) : Enc (fun xs : List ι => PyData.tuple (xs.map f)) (k + 1) := ⟨fun xs => by simp [PyData.canLay0, h.layA xs], fun xs => by have := h.depA xs; simp [PyData.depth]; omega, fun xs ys => by simp only [PyData.eqv]; exact h.eqA xs ys⟩
theorem Enc.lst (h : Enc f k) : Enc (fun xs : List ι => PyData.list (xs.map f)) (k + 1) := ⟨fun xs => by simp [PyData.canLay0, h.layA xs], fun xs => by have := h.depA xs; simp [PyData.depth]; omega, fun xs ys => by simp only [PyData.eqv]; exact h.eqA xs ys⟩
theorem Enc.shaped (h : Enc f k) (hk : k ≤ 64) (i : ι) : SeqAt.shaped (f i) = true := by
  unfold SeqAt.shaped
  rw [h.lay i]
  have := h.dep i
  simp; omega
theorem Enc.dec [DecidableEq ι] (h : Enc f k) (i j : ι) : PyData.eqv (f i) (f j) = decide (i = j) := by
  rw [Bool.eq_iff_iff, h.eq i j]; simp
end
theorem encV : Enc (fun v => dV v) 2 := Enc.int.tup
theorem encM : Enc (fun v => dM v) 3 := encV.tup
theorem encLM : Enc (fun v => dLM v) 3 := encV.lst
end DL
end
section
namespace DL
open WM
section
variable {w n m : Nat} {kp : Kp} {cs cs0 : List Nat} {c : Nat}
theorem rowK_suffix (hmn : m ≤ n) (hK : KOk w n m kp) (h : colsOf m kp = cs0 ++ cs) : ∃ lo, FI w n m kp lo (rowK w m kp cs) := by
  have hp := nodup_cols m kp
  rw [h] at hp
  obtain ⟨p1, p2, p3⟩ := List.pairwise_append.mp hp
  rcases List.eq_nil_or_concat cs0 with e | ⟨c0, x, e⟩
  · subst e
    exact ⟨0, rowK_ok hmn hK p2 (fun c _ => Nat.zero_le c) (fun d _ => by rw [cols_iff hK d, h]; simp)⟩
  · rw [List.concat_eq_append] at e
    subst e
    refine ⟨x + 1, rowK_ok hmn hK p2 (fun c hc => p3 x (by simp) c hc) (fun d hd => ?_)⟩
    rw [cols_iff hK d, h, List.mem_append]
    refine ⟨fun q => q.resolve_left fun z => ?_, .inr⟩
    rcases List.mem_append.mp z with z | z
    · have := (List.pairwise_append.mp p1).2.2 d z x (by simp); omega
    · simp at z; omega
theorem rev_take {cols : List Nat} {i : Nat} (h : cols.reverse[i]? = some c) : (cols.reverse.take (i + 1)).reverse = c :: (cols.reverse.take i).reverse := by
  rw [List.take_succ, h]
  simp
theorem rev_split (cols : List Nat) (i : Nat) : cols = (cols.reverse.drop i).reverse ++ (cols.reverse.take i).reverse := by
  rw [← List.reverse_append, List.take_append_drop, List.reverse_reverse]
theorem cols_rowK (hmn : m ≤ n) (hK : KOk w n m kp) : colsOf m (rowK w m kp (colsOf m kp)) = colsOf m kp := by
  have I := rowK_ok (lo := 0) hmn hK (nodup_cols m kp) (fun _ _ => Nat.zero_le _) (fun d _ => cols_iff hK d)
  unfold colsOf
  refine List.filter_congr fun d hd => ?_
  have := I.dom d
  rw [Bool.eq_iff_iff]
  simpa [colsOf] using this
theorem remK_snoc (cs : List Nat) (v : List Int) : remK w kp (cs ++ [c]) v = redV w (remK w kp cs v) c ((kp c).getD []) := by simp [remK]
theorem mem_cols (h : c ∈ colsOf m kp) : c < m ∧ ∃ r, kp c = some r := by
  obtain ⟨h1, h2⟩ := List.mem_filter.mp h
  exact ⟨List.mem_range.mp h1, Option.isSome_iff_exists.mp h2⟩
theorem take_get {α : Type} {l : List α} {i : Nat} {a : α} (h : l[i]? = some a) : l.take (i + 1) = l.take i ++ [a] := by rw [List.take_succ, h]; rfl
/-- what the whole elimination answers -/
theorem rows_basF {S : List (List Int)} (hK : KOk w n n kp) (h : ∀ f, Sk w n kp 0 f ↔ SpB w n S f) : rowsF w n kp = basF w n S := by
  obtain ⟨a, b, c⟩ := rowsF_ok (Nat.le_refl n) hK
  exact (basF_eq ⟨a, b⟩ fun f => (c f).trans (h f)).symm
theorem spG_snoc {S : List (List Int)} {v : List Int} (h : ∀ f, Sk w n kp 0 f ↔ SpB w n S f) (f : Fn) : SpG w n kp [v] 0 f ↔ SpB w n (S ++ [v]) f := by
  constructor
  · intro q
    refine spP_mem.mp (q.sub fun s hs => ?_)
    rcases hs with ⟨d, h1, h2⟩ | ⟨h1, _⟩
    · exact (spP_mem.mpr ((h _).mp (.mem ⟨d, h1, h2⟩))).mono fun t ht => List.mem_append_left _ ht
    · exact .mem (List.mem_append_right _ h1)
  · intro q
    refine (spP_mem.mpr q).sub fun s hs => ?_
    rcases List.mem_append.mp hs with z | z
    · exact ((h _).mpr (.mem z)).mono fun t ht => .inl ht
    · exact .mem (.inr ⟨z, fun i hi => by omega⟩)
end
end DL
end
section
namespace L2
open PySem PySem.Spec PyProof.Rows
/-! ### enumerate(tuple) -/
theorem meets_enumerate_newB1 {v : Value} {o : Obj} {H : Heap → Prop} (B : Begins v o H) :
    Meets (Builtin.«enumerate.__new__» ⟨[.type "enumerate", v], []⟩) (fun _ R s => H s.heap ∧
      R (.ok (.ret (.ref (s.heap.push o).objs.size))) { s with heap := (s.heap.push o).push { cls := .type "enumerate", data := .fields #[.none, .bool false, .ref s.heap.objs.size, rawInt 0, .none, .none] } }) :=
  .of_wp fun prog w A R s h => by
    obtain ⟨hp, g, d, tk, os⟩ := s; obtain ⟨h1, h⟩ := h
    have hsub := sub_enumerate
    have q1 : ∀ {A' : Around} {E : Value → Shared → Prop} {Q : Value → Shared → Prop}, Q (.ref hp.objs.size) ⟨hp.push o, g, d, tk, os⟩ → wpAny (model prog w) A' (pyIter v) Q E ⟨hp, g, d, tk, os⟩ :=
      fun q => B.iter prog w _ _ ⟨hp, g, d, tk, os⟩ _ h1 q
    wp_walk using q1
    refine wpAny_stack_any fun st => wpAny_pure ?_
    split
    · rename_i c _ _ _ _ _
      cases (c == Value.type "enumerate")
      · wp_walk using q1
        exact ⟨_, rfl, h⟩
      · wp_walk using q1
        exact ⟨_, rfl, h⟩
    · wp_walk using q1
      exact ⟨_, rfl, h⟩
theorem enum_begins1 {prog : Program} {w : World} {A : Around} {E : Value → Shared → Prop} {s : Shared} {v : Value} {o : Obj} {H : Heap → Prop} {Q : Value → Shared → Prop} (B : Begins v o H) (h1 : H s.heap)
    (h : ∀ h', IsEnum h' (s.heap.objs.size + 1) s.heap.objs.size 0 .none → h'.get? s.heap.objs.size = some o → h'.objs.size = s.heap.objs.size + 2 →
      (∀ b o, s.heap.get? b = some o → h'.get? b = some o) → Q (.ref (s.heap.objs.size + 1)) { s with heap := h' }) :
    wpAny (model prog w) A (call (.type "enumerate") [v]) Q E s := by
  refine callType_new F.called_enumerate (by decide) (F.typeCall_enumerate_1 _) (F.newCall_enumerate_1 _) (fun obj => F.args_object_init_2 obj _) F.entry_enumerate_new
    (meets_enumerate_newB1 B) ⟨h1, ?_⟩
  have hz : (s.heap.push o).objs.size = s.heap.objs.size + 1 := Heap.size_push ..
  show _ ∧ _
  rw [hz]
  have he : IsEnum ((s.heap.push o).push { cls := .type "enumerate", data := .fields #[.none, .bool false, .ref s.heap.objs.size, rawInt 0, .none, .none] }) (s.heap.objs.size + 1) s.heap.objs.size 0 .none := by
    have := Heap.get?_push_size (s.heap.push o) (o := { cls := .type "enumerate", data := .fields #[.none, .bool false, .ref s.heap.objs.size, rawInt 0, .none, .none] }) rfl
    rw [hz] at this; exact this
  refine ⟨⟨_, he, rfl⟩, h _ he (Heap.get?_push_of_some _ (Heap.get?_push_size _ B.free)) (by rw [Heap.size_push, hz]) fun b o x => Heap.get?_push_of_some _ (Heap.get?_push_of_some _ x)⟩
def IteT (K : PySem.W.Frag) (a : Addr) : It :=
  ⟨fun i H => ∃ (xs : List V) (x : V), SqT K H a xs ∧ xs[i]? = some x, fun i H v H' => ∃ T x, v = .ref T ∧ H T = none ∧ H' = upd H T (.tup [.int (i : Nat), x]) ∧ ∀ xs, SqT K H a xs → xs[i]? = some x, fun i H => ∃ xs : List V, SqT K H a xs ∧ xs.length ≤ i⟩
theorem turn_enumT {P : Program} {w : World} {K : PySem.W.Frag} {elts : List Expr} {kk : Nat} {tpos : Pos} (a e it : Addr) :
    Turn P w K (.Tuple elts kk tpos) (IteT K a) [e, it] e (fun i h => (∃ old, IsEnum h e it ((i : Nat) : Int) old) ∧ h.IsTupleIter it a i ∧ e ≠ it) where
  mem := by simp
  obj := fun i h st b hb => by
    obtain ⟨⟨old, he⟩, ⟨o, ho, hc, hd⟩, _⟩ := st
    have e' : b = e ∨ b = it := by simpa using hb
    rcases e' with z | z
    · rw [z]; exact ⟨_, he, fun v q => nomatch q⟩
    · rw [z]; exact ⟨o, ho, fun v q => by rw [hd] at q; cases q⟩
  keep := fun i h h' st k => let ⟨⟨old, he⟩, hi, hne⟩ := st; ⟨⟨old, k e (by simp) _ he⟩, hi.at fun o q => k it (by simp) o q, hne⟩
  item := by
    intro X hP hw hK hc i pins s σ H E I hf st hg
    subst hP hw hK
    obtain ⟨⟨old, he⟩, hit, hne⟩ := st
    obtain ⟨xs, x, hq, hx⟩ := hg
    obtain ⟨its, rv, p, hz⟩ := I.tuple hq
    obtain ⟨u, hu, ru⟩ := rv.get hx
    have hel : e < s.heap.objs.size := Heap.lt_size he
    have hil : it < s.heap.objs.size := by obtain ⟨_, q, _⟩ := hit; exact Heap.lt_size q
    have hai : a ≠ it := fun z => by
      obtain ⟨o1, e1, c1, _⟩ := p
      obtain ⟨o2, e2, c2, _⟩ := hit
      rw [z] at e1; rw [e1] at e2; cases e2
      rw [c1] at c2; exact absurd c2 (by decide)
    have hae : e ≠ a := fun z => by
      obtain ⟨o1, e1, c1, _⟩ := p
      rw [← z, he] at e1; cases e1
      exact absurd (show Value.type "enumerate" = Value.type "tuple" from c1) (by decide)
    have hul : i < its.toArray.size := by simpa using (List.getElem?_eq_some_iff.mp hu).1
    refine wpAny_pyNext_enum_itemD (Draws.tuple (A := X.A.in1) (I.ok.hd hc) it a hai its.toArray) he ⟨hit, p⟩ hul hne (by simp [hne, hae]) fun y h' tk hy ho hst' hT hsz hk => ?_
    have hy' : y = u := by
      have hy2 : its[i]? = some y := by simpa using hy
      rw [hu] at hy2; exact (Option.some.inj hy2).symm
    subst hy'
    refine ⟨_, rfl, wpAny_letOwnedTupleGo_enum (s := { s with heap := h', toks := tk + 1 }) ho fun h'' he' sb => ?_⟩
    have hT2 : h''.get? s.heap.objs.size = some { cls := .type "tuple", data := .seq #[.int i tk, y] } := (sb.2 _ (Nat.ne_of_gt hel)).trans hT
    have new : ObjOk X.prog X.w (upd H s.heap.objs.size (.tup [.int (i : Nat), x])) h'' s.heap.objs.size (.tup [.int (i : Nat), x]) :=
      ⟨by show 2 ≤ sizeLine; decide, [.int i tk, y], .cons ⟨_, rfl⟩ (.cons ru .nil), ⟨_, hT2, rfl, _, rfl⟩⟩
    have I1 : Inv X pins σ (upd H s.heap.objs.size (.tup [.int (i : Nat), x])) { s with heap := h'', toks := tk + 1 } :=
      I.turnedNew (ch := [e, it]) (fun b ob hb q => (sb.2 b (fun z => hb (by simp [z]))).trans (hk b ob (fun z => hb (by simp [z])) (fun z => hb (by simp [z])) q)) hf (Nat.le_refl _) new
    refine ⟨.ref s.heap.objs.size, _, I1, rfl, ⟨_, x, rfl, I.hok.fresh (Nat.le_refl _), rfl, fun ys hy => by rw [I.tuple_inj hy hq]; exact hx⟩, ⟨⟨y, ?_⟩, hst'.1.at fun o q => (sb.2 it (Ne.symm hne)).trans q, hne⟩, fun b hb => ?_⟩
    · have e1 : ((i + 1 : Nat) : Int) = (i : Int) + 1 := by omega
      rw [e1]; exact he'
    · have hb' : b < s.heap.objs.size := by
        have e' : b = e ∨ b = it := by simpa using hb
        rcases e' with z | z
        · rw [z]; exact hel
        · rw [z]; exact hil
      rw [upd_ne (Nat.ne_of_lt hb')]
      exact (hf b hb).1
  done := by
    intro X hP hw hK hc i pins s σ H E I hf st hg
    subst hP hw hK
    obtain ⟨⟨old, he⟩, hit, hne⟩ := st
    obtain ⟨xs, hq, hx⟩ := hg
    obtain ⟨its, rv, p, hz⟩ := I.tuple hq
    obtain ⟨f0, f1, f2, f3, f4, f5⟩ := hf it (by simp)
    have hl := rv.length
    have hT : s.TypeIs (.ref e) "enumerate" := ⟨_, he, rfl⟩
    unfold pyNext
    refine wpAny_bind (wpAny_attempt (wpAny_callSpecial?_slot (name := Str.ofString "__next__") hT F.slot_enumerate_next
      (wpAny_call_entry F.slot_enumerate_next hT F.entry_enumerate_next ?_ (F.args_enumerate_next_1 _))))
    show wpAny _ _ (field (.ref e) 2 >>= _) _ _ _
    refine wpAny_bind (wpAny_field he rfl (x := .ref it) rfl ?_)
    refine wpAny_bind (wpAny_nextOf_tuple_end (A := X.A.in1) (I.ok.hd hc) hit p (by simp; omega) fun h' x he' hx' => ?_)
    obtain ⟨o, ho, hc'⟩ := hx'
    refine wpAny_bind (wpAny_isInstance (T := "StopIteration") (b := true) ⟨o, ho, hc'⟩ isSubtype_stop ?_)
    exact wpAny_pure ⟨rfl, I.turned (t' := s.toks) (fun b o hb q => he' b o hb q) f0 f1 f3 f4 f5⟩
  self := fun A i s Q E st h => let ⟨⟨_, he⟩, _⟩ := st; wpAny_pyIter_enum he h
def iEnumT (K : PySem.W.Frag) (ta : TA) : TI := fun σ H R => ta σ H fun vs H1 => ∃ a xs, vs = [.ref a] ∧ SqT K H1 a xs ∧ R (IteT K a) H1
theorem pi_enumT {X : Cx} {e : Expr} {ta : TA} {p pos tpos : Pos} {elts : List Expr} {kk : Nat} (hg : Gl X "enumerate") (hm : X.mg "enumerate" = none) (ha : PA X [e] ta) (hs : starEach [e] X.env = [(false, eval e X.env)] := by rfl) :
    PI X (.Tuple elts kk tpos) (.Call (.Name "enumerate" p) [e] [] pos) (iEnumT X.K ta) := by
  refine ⟨fun pins s σ H R I h => ?_⟩
  refine Call_ (ld_blt I hg hm boot_enumerate (PyProof.Rows.callWith_type1 (thn (ha.run pos pins s σ H _ I h) fun us s1 ⟨vs, H1, I1, r1, q1⟩ => ?_) hs rfl))
  obtain ⟨a, xs, ex, hq, q⟩ := q1
  subst ex
  cases r1 with
  | cons r rr =>
    cases rr
    cases r
    obtain ⟨its, rv, p', hz⟩ := I1.tuple hq
    refine enum_begins1 (begins_tuple a its.toArray) p' fun h' he hit hsz hk => wpAny_pyIter_enum he ?_
    have I2 : Inv X pins σ H1 { s1 with heap := h' } := I1.kept (t' := s1.toks) hk
    refine ⟨s1.heap.objs.size + 1, [s1.heap.objs.size + 1, s1.heap.objs.size], _, _, H1, rfl, I2, turn_enumT a (s1.heap.objs.size + 1) s1.heap.objs.size, ⟨⟨.none, he⟩, ⟨_, hit, rfl, rfl⟩, Nat.succ_ne_self _⟩, fun b hb => ?_, q⟩
    have e' : b = s1.heap.objs.size + 1 ∨ b = s1.heap.objs.size := by simpa using hb
    have hle : s1.heap.objs.size ≤ b := by
      rcases e' with z | z
      · rw [z]; exact Nat.le_add_right _ _
      · rw [z]; exact Nat.le_refl _
    exact I1.fpOk hle (I1.hok.fresh hle)
/-! ### tuple * 1 -/
theorem exactT : isSubtype (.type "tuple") (.type "tuple") = pure true := by rw [isSubtype_type]; kernel_rfl
theorem tuple_mul1 (l : Addr) (items : Array Value) (n : Nat) (dd : Option Addr) (sl : Array (Option Value)) (u : Tok) (c1 : (items.isEmpty || (1 : Int) == 1) = true) :
    Meets (Builtin.«tuple.__mul__» ⟨[.ref l, .int 1 u], []⟩) (fun _ R s => s.heap.get? l = some { cls := .type "tuple", dict := dd, data := .seq items n, slots := sl } ∧
      R (.ok (.ret (Value.ref l))) s) :=
  .of_wp fun prog w A R s h => by
    obtain ⟨hp, g, d, tk, os⟩ := s
    obtain ⟨hl, h⟩ := h
    have f1 := AutoSeq1.idx_int
    wp_walk using AutoSeq1.wpAny_loadPart' hl
    exact ⟨_, rfl, h⟩
def rRepT12 (K : PySem.W.Frag) : R2 := fun x y H Q => (∃ l xs, x = .ref l ∧ y = .int 1 ∧ SqT K H l xs ∧ Q (.ref l) H) ∨ rRepT K x y H Q
section
variable {X : Cx}
theorem op_repT12 : OpR X (binaryOp .Mult) (rRepT12 X.K) := by
  intro pins s σ H x y v u Q I rx ry h
  rcases h with ⟨l, xs, rfl, rfl, hT, q⟩ | h
  · cases rx
    obtain ⟨t, rfl⟩ := ry
    obtain ⟨its, r, ⟨⟨cls, dd, data, sl⟩, ho, hc, n, hd⟩, hs⟩ := I.tuple hT
    simp only at hc hd
    subst hc hd
    refine wpAny_binaryOp_repeat_ref (T := "tuple") (U := "int") (by decide) ⟨_, ho, rfl⟩ (fun s' => typeIs_int s' 1 t) noFill_tuple_mul F.fills_int_mul F.slot_int_rmul repeat_tuple F.slot_int_index.lookup
      (call_meets F.slot_int_rmul (typeIs_int s 1 t) F.entry_int_rmul (F.args_int_rmul_2 _ _) (int_rmul_tuple 1 t l its.toArray n dd sl)
        ⟨ho, rfl, ⟨_, ho, rfl⟩, call_meets F.slot_tuple_mul ⟨_, ho, rfl⟩ F.entry_tuple_mul (F.args_tuple_mul_2 _ _) (tuple_mul1 l its.toArray n dd sl t (by simp)) ⟨ho, ?_⟩⟩)
    exact ⟨.ref l, H, I, rfl, q⟩
  · exact op_repT pins s σ H x y v u Q I rx ry h
/-! ### any(tuple of ints) -/
def rAnyT (K : PySem.W.Frag) : List V → Hp → VK → Prop := fun vs H Q => ∃ (a : Addr) (ns : List Int), vs = [V.ref a] ∧ SqT K H a (ns.map V.int) ∧ Q (.bl (ns.any fun i => i != 0)) H
theorem reads_ints {h : Heap} : ∀ {its : List Value} {ns : List Int}, IntsAre its ns → ∃ as, ReadsAll h its (ns.map PyData.int) as
  | _, _, .nil => ⟨_, .nil⟩
  | _, _, .cons i t r => let ⟨_, q⟩ := reads_ints (h := h) r; ⟨_, .cons (.int i t) q⟩
theorem cr_anyT (hc : X.calm = true) : CallR X (.builtin "any") (rAnyT X.K) := by
  intro pins s σ H vs us Q I r h
  obtain ⟨a, ns, rfl, hs, q⟩ := h
  obtain ⟨its, rv, hl, _⟩ := I.tuple hs
  rw [Vals.ref1 r]
  obtain ⟨as, hr⟩ := reads_ints (h := s.heap) rv.ints
  have hp : ∀ ns : List Int, PyData.plainAll (ns.map PyData.int) = true := fun ns => by
    induction ns with
    | nil => simp [PyData.plainAll]
    | cons n ns ih => simp [PyData.plainAll, PyData.plain, ih]
  refine PySem.W.any_tuple_data (I.ok.hd hc) hl (xs := ns.map PyData.int) (as := as) (by simpa using hr) (hp ns) (fun x hx => by obtain ⟨i, _, rfl⟩ := List.mem_map.mp hx; simp [PyData.fits63]) fun h' tk hk => ?_
  refine ⟨.bl _, H, I.kept fun b o eo => hk b o eo, ?_, q⟩
  show Value.bool _ = Value.bool _
  congr 1
  rw [List.any_map]
  congr 1
end
end L2
namespace DL
open PySem PySem.Spec PyProof.Rows L2 WM
section
variable {X : Cx} {F : Hp} {ρ : Rho} {a b c e f tg : Expr} {es : List Expr} {pos p2 p : Pos} {d d1 d2 d3 : PyData} {ds : List PyData} {x : Str}
theorem ed_anyT {v : List Int} (hm : X.mg "any" = none) (hc : X.calm = true) (h : ED X F ρ e (dV v)) (hg : Gl X "any" := by rfl) (he : starEach [e] X.env = (false, eval e X.env) :: starEach [] X.env := by rfl) : ED X F ρ (.Call (.Name "any" p) [e] [] pos) (.bool (v.any fun i => i != 0)) :=
  ed_of (er_bi (cr_anyT hc) hm (by decide +kernel) (ea_cons h ea_nil he) (fun vs H Q dvs k => by
    obtain ⟨u, rfl, dv⟩ := dpA1 dvs
    obtain ⟨q, xs, rfl, hq, hx⟩ := dp_tup dv
    rw [dpA_ints hx] at hq
    exact ⟨q, v, rfl, hq, k _ _ _ rfl (Same.refl H) (.bl _)⟩) hg (he := he))
/-- (x,) * k -/
theorem ed_rep {i : Int} {k : Nat} (ha : ED X F ρ a (.tuple [.int i])) (hb : ED X F ρ b (.int (k : Int))) (hk : 1 ≤ k ∧ k ≤ 1000) : ED X F ρ (.BinOp a .Mult b pos) (dV (List.replicate k i)) :=
  ed_two (pe_op op_repT12 pe_w pe_w) ha hb fun x y H Q hx hy q => by
    obtain ⟨l, xs, rfl, hl, hxs⟩ := dp_tup hx
    obtain ⟨v, rfl, hv⟩ := dpA1 hxs
    have ev := dp_int hv
    subst ev
    by_cases h1 : k = 1
    · subst h1
      exact .inl ⟨l, _, rfl, dp_int hy, hl, q _ _ (Same.refl H) hx⟩
    · refine .inr ⟨l, _, _, rfl, dp_int hy, hl, by simp, by omega, by omega, by simp, fun p hp => q _ _ (Same.new hp) (.tup (SqT.of upd_same) ?_)⟩
      have e : (List.replicate (k : Int).toNat [V.int i]).flatten = (List.replicate k i).map V.int := by simp
      rw [e]
      exact ints_dpA _
def enumD (i : Nat) (d : PyData) : PyData := .tuple [.int (i : Nat), d]
theorem it_enumT {ι : Type} {elts : List Expr} {kk : Nat} {tpos : Pos} {enc : ι → PyData} {xs : List ι} (hm : X.mg "enumerate" = none) (ha : ED X F ρ a (.tuple (xs.map enc))) (hg : Gl X "enumerate" := by rfl) (hs : starEach [a] X.env = [(false, eval a X.env)] := by rfl) :
    IT X F ρ (.Tuple elts kk tpos) (.Call (.Name "enumerate" p) [a] [] pos) (xs.zipIdx.map fun q => .tuple [.int (q.2 : Nat), enc q.1]) := fun σ H R E k => by
  refine ofI (pi_enumT hg hm pa_w hs) ?_
  refine (ea_cons ha ea_nil hs) σ H _ E fun vs H1 e1 dvs => ?_
  obtain ⟨v, rfl, dv⟩ := dpA1 dvs
  obtain ⟨q, vs, rfl, hq, hxs⟩ := dp_tup dv
  have l1 := dpA_len hxs
  rw [List.length_map] at l1
  refine ⟨q, vs, rfl, hq, k _ _ e1 fun H e => ?_⟩
  have hq' := seqT_mono e hq
  refine ⟨fun i hi => ⟨vs, vs[i]'(by simp at hi; omega), hq', by rw [List.getElem?_eq_getElem]⟩, ⟨vs, hq', by simp; omega⟩, fun i z H' d hd y => ?_⟩
  obtain ⟨T, x', rfl, hT, rfl, h1⟩ := y
  rw [List.getElem?_map, Option.map_eq_some_iff] at hd
  obtain ⟨⟨x1, j⟩, hj, rfl⟩ := hd
  rw [List.getElem?_zipIdx, Option.map_eq_some_iff] at hj
  obtain ⟨x2, hx2, e2⟩ := hj
  cases e2
  obtain ⟨v1, hv1, dv1⟩ := dpA_get hxs (i := i) (d := enc x1) (by rw [List.getElem?_map, hx2]; rfl)
  have e3 := h1 vs hq'
  rw [hv1] at e3
  cases e3
  refine ⟨Same.new hT, .tup (SqT.of upd_same) (.cons ?_ (.cons (dp_mono (e.trans (Same.new hT)) dv1) .nil))⟩
  have : (0 + i) = i := by omega
  rw [this]
  exact .int _
theorem it_enumL {ι : Type} {elts : List Expr} {kk : Nat} {tpos : Pos} {enc : ι → PyData} {xs : List ι} (hm : X.mg "enumerate" = none) (ha : ED X F ρ a (.list (xs.map enc))) (hg : Gl X "enumerate" := by rfl) (hs : starEach [a] X.env = [(false, eval a X.env)] := by rfl) :
    IT X F ρ (.Tuple elts kk tpos) (.Call (.Name "enumerate" p) [a] [] pos) (xs.zipIdx.map fun q => .tuple [.int (q.2 : Nat), enc q.1]) := fun σ H R E k => by
  refine ofI (pi_enum hg hm pa_w hs) ?_
  refine (ea_cons ha ea_nil hs) σ H _ E fun vs H1 e1 dvs => ?_
  obtain ⟨v, rfl, dv⟩ := dpA1 dvs
  obtain ⟨q, vs, rfl, hq, hxs⟩ := dp_lst dv
  have l1 := dpA_len hxs
  rw [List.length_map] at l1
  refine ⟨q, vs, rfl, hq, k _ _ e1 fun H e => ?_⟩
  have hq' := e.seq hq
  refine ⟨fun i hi => ⟨vs, vs[i]'(by simp at hi; omega), hq', by rw [List.getElem?_eq_getElem]⟩, ⟨vs, hq', by simp; omega⟩, fun i z H' d hd y => ?_⟩
  obtain ⟨T, x', rfl, hT, rfl, h1⟩ := y
  rw [List.getElem?_map, Option.map_eq_some_iff] at hd
  obtain ⟨⟨x1, j⟩, hj, rfl⟩ := hd
  rw [List.getElem?_zipIdx, Option.map_eq_some_iff] at hj
  obtain ⟨x2, hx2, e2⟩ := hj
  cases e2
  obtain ⟨v1, hv1, dv1⟩ := dpA_get hxs (i := i) (d := enc x1) (by rw [List.getElem?_map, hx2]; rfl)
  have e3 := h1 vs hq'
  rw [hv1] at e3
  cases e3
  refine ⟨Same.new hT, .tup (SqT.of upd_same) (.cons ?_ (.cons (dp_mono (e.trans (Same.new hT)) dv1) .nil))⟩
  have : (0 + i) = i := by omega
  rw [this]
  exact .int _
end
end DL
end
section
namespace DL
open WM
/-! ### remainders over a basis, counts, units, columns -/
def leadc (r : List Int) : Nat := (pcol r r.length).getD 0
def remB (w : Nat) (B : List (List Int)) (v : List Int) : List Int := B.foldl (fun v r => redV w v (leadc r) r) v
def inB (w : Nat) (B : List (List Int)) (v : List Int) : Bool := !((remB w B v).any fun i => i != 0)
def cntB (w : Nat) (B : List (List Int)) : Int := B.foldl (fun f r => f * (2 ^ w / ix r (leadc r))) 1
section
variable {w n lo : Nat} {B rs : List (List Int)} {v r : List Int} {c : Nat}
theorem lead_pcol (hl : Lead w n r c) (hr : r.length = n) : pcol r r.length = some c := by
  rw [hr]
  exact pcol_some.mpr ⟨hl.1, Int.ne_of_gt hl.pos, hl.2.1⟩
theorem lead_c (hl : Lead w n r c) (hr : r.length = n) : leadc r = c := by unfold leadc; rw [lead_pcol hl hr]; rfl
theorem remB_vec (hB : ∀ r ∈ B, IsVec w n r) (hv : IsVec w n v) : IsVec w n (remB w B v) := by
  induction B generalizing v with
  | nil => exact hv
  | cons r rs ih => exact ih (fun s hs => hB s (List.mem_cons_of_mem _ hs)) (isVec_red hv (hB r List.mem_cons_self).1)
theorem vec_zero (hv : IsVec w n v) (h : ∀ i, i < n → (2 : Int) ^ w ∣ ix v i) : ∀ i, i < n → ix v i = 0 := fun i hi => by
  obtain ⟨a, b⟩ := hv.at hi
  have := h i hi
  rcases Int.lt_or_eq_of_le a with q | q
  · have := Int.le_of_dvd q this; omega
  · exact q.symm
theorem remB_in (hb : HB w n lo B) (hB : ∀ r ∈ B, IsVec w n r) (hv : IsVec w n v) (h : SpB w n B (ix v)) : ∀ i, i < n → ix (remB w B v) i = 0 := by
  induction B generalizing v lo with
  | nil => exact vec_zero hv h.nil
  | cons r rs ih =>
    obtain ⟨c, hc, hl, ht, hq, hs⟩ := hb
    have rv := hB r List.mem_cons_self
    have lc := lead_c hl rv.1
    have hcn := hl.1
    have v0 := (hv.at hcn).1
    have hd := HB.pdvd hl ht h
    have ht0 : ix v c / ix r c * ix r c = ix v c := Int.ediv_mul_cancel hd
    have rm : ∀ i, i < n → (2 : Int) ^ w ∣ ix (redV w v c r) i - (ix v i - ix v c / ix r c * ix r i) := fun i hi => red_mod hv rv hi hl.pos v0
    have h1 : SpB w n (r :: rs) (ix (redV w v c r)) := (h.comb (.mem List.mem_cons_self) 1 (-(ix v c / ix r c))).congr fun i hi => dv1 1 (rm i hi) (by grind)
    have hz : (2 : Int) ^ w ∣ ix (redV w v c r) c := by
      have := rm c hcn
      rw [ht0] at this
      exact dv1 1 this (by grind)
    have h2 := HB.rest hl ht hs h1 hz
    show ∀ i, i < n → ix (remB w rs (redV w v (leadc r) r)) i = 0
    rw [lc]
    exact ih ht (fun s hs => hB s (List.mem_cons_of_mem _ hs)) (isVec_red hv rv.1) h2
theorem remB_out (hL : ∀ r ∈ B, IsVec w n r ∧ ∃ c, Lead w n r c) (hv : IsVec w n v) : SpB w n B (fun i => ix v i - ix (remB w B v) i) := by
  induction B generalizing v with
  | nil => exact .zero fun i _ => dv0 (by show ix v i - ix v i = 0; grind)
  | cons r rs ih =>
    obtain ⟨rv, c, hl⟩ := hL r List.mem_cons_self
    have lc := lead_c hl rv.1
    have v0 := (hv.at hl.1).1
    have h1 := ih (fun s hs => hL s (List.mem_cons_of_mem _ hs)) (v := redV w v c r) (isVec_red hv rv.1)
    have h2 : SpB w n (r :: rs) (fun i => ix (redV w v c r) i - ix (remB w rs (redV w v c r)) i) := h1.mono fun s hs => List.mem_cons_of_mem _ hs
    show SpB w n (r :: rs) (fun i => ix v i - ix (remB w rs (redV w v (leadc r) r)) i)
    rw [lc]
    exact (h2.comb (.mem List.mem_cons_self) 1 (ix v c / ix r c)).congr fun i hi => dv1 (-1) (red_mod hv rv hi hl.pos v0) (by grind)
theorem any_zero {v : List Int} : (v.any fun i => i != 0) = false ↔ ∀ i, i < v.length → ix v i = 0 := by
  rw [List.any_eq_false]
  constructor
  · intro h i hi
    have := h _ (ix_mem hi)
    simpa using this
  · intro h x hx
    obtain ⟨i, hi, e⟩ := List.getElem_of_mem hx
    have := h i hi
    unfold ix at this
    rw [List.getD_eq_getElem?_getD, List.getElem?_eq_getElem hi, Option.getD_some] at this
    rw [e] at this
    simp [this]
theorem inB_iff (hb : HB w n lo B) (hB : ∀ r ∈ B, IsVec w n r) (hv : IsVec w n v) : inB w B v = true ↔ SpB w n B (ix v) := by
  have rv := remB_vec hB hv
  unfold inB
  rw [Bool.not_eq_true', any_zero, rv.1]
  constructor
  · intro h
    have := remB_out (fun r hr => ⟨hB r hr, by obtain ⟨d, _, h⟩ := hb.lead r hr; exact ⟨d, h⟩⟩) hv
    exact this.congr fun i hi => dv0 (by rw [h i hi]; grind)
  · exact remB_in hb hB hv
end
/-! ### units, columns -/
def unitV (m p : Nat) : List Int := (List.range m).map fun i : Nat => if (i : Int) = (p : Int) then 1 else 0
def colsM (n : Nat) (S : List (List Int)) : List (List Int) := (List.range n).map fun i => S.map fun v => ix v i
theorem unitV_len (m p : Nat) : (unitV m p).length = m := by simp [unitV]
theorem ix_unit {m p i : Nat} (hi : i < m) : ix (unitV m p) i = if i = p then 1 else 0 := by
  unfold ix unitV
  rw [List.getD_eq_getElem?_getD, List.getElem?_map, List.getElem?_range hi]
  simp only [Option.map_some, Option.getD_some]
  by_cases q : i = p
  · subst q; simp
  · rw [if_neg q, if_neg (by omega)]
theorem isVec_unit {w m p : Nat} (hw : 0 < w) : IsVec w m (unitV m p) := ⟨unitV_len m p, fun x hx => by
  obtain ⟨i, _, rfl⟩ := List.mem_map.mp hx
  have : (1 : Int) < 2 ^ w := by have := pow_lt_pow hw; simpa using this
  split <;> omega⟩
theorem isVec_append {w n m : Nat} {a b : List Int} (ha : IsVec w n a) (hb : IsVec w m b) : IsVec w (n + m) (a ++ b) := ⟨by simp [ha.1, hb.1], fun x hx => by
  rcases List.mem_append.mp hx with q | q
  · exact ha.2 x q
  · exact hb.2 x q⟩
theorem ix_append_l {a b : List Int} {i : Nat} (h : i < a.length) : ix (a ++ b) i = ix a i := by
  unfold ix
  rw [List.getD_eq_getElem?_getD, List.getD_eq_getElem?_getD, List.getElem?_append_left h]
theorem ix_append_r {a b : List Int} {i : Nat} : ix (a ++ b) (a.length + i) = ix b i := by
  unfold ix
  rw [List.getD_eq_getElem?_getD, List.getD_eq_getElem?_getD, List.getElem?_append_right (by omega)]
  congr 2; omega
theorem ix_drop {a : List Int} {n i : Nat} : ix (a.drop n) i = ix a (n + i) := by
  unfold ix
  rw [List.getD_eq_getElem?_getD, List.getD_eq_getElem?_getD, List.getElem?_drop]
theorem ix_take {a : List Int} {n i : Nat} (h : i < n) : ix (a.take n) i = ix a i := by
  unfold ix
  rw [List.getD_eq_getElem?_getD, List.getD_eq_getElem?_getD, List.getElem?_take_of_lt h]
theorem isVec_zero {w n : Nat} : IsVec w n (List.replicate n 0) := ⟨by simp, fun x hx => by
  have := (List.mem_replicate.mp hx).2
  subst this
  exact ⟨by omega, pow_pos2 w⟩⟩
theorem ix_zero {n i : Nat} : ix (List.replicate n 0) i = 0 := by
  unfold ix
  rw [List.getD_eq_getElem?_getD, List.getElem?_replicate]
  split <;> rfl
theorem isVec_cols {w n : Nat} {S : List (List Int)} (hS : ∀ v ∈ S, IsVec w n v) : ∀ c ∈ colsM n S, IsVec w S.length c := fun c hc => by
  obtain ⟨i, hi, rfl⟩ := List.mem_map.mp hc
  refine ⟨by simp, fun x hx => ?_⟩
  obtain ⟨v, hv, rfl⟩ := List.mem_map.mp hx
  exact (hS v hv).at (List.mem_range.mp hi)
end DL
end
section
namespace DL
open PySem PySem.Spec PyProof.Rows L2 WM
/-! ### linear combinations -/
def comb : List (List Int) → Fn → Nat → Int
  | [], _, _ => 0
  | s :: S, x, j => x 0 * ix s j + comb S (fun i => x (i + 1)) j
theorem comb_congr {M : Int} {j : Nat} : ∀ {S : List (List Int)} {x y : Fn}, (∀ i, i < S.length → M ∣ x i - y i) → M ∣ comb S x j - comb S y j
  | [], _, _, _ => dv0 rfl
  | s :: S, x, y, h => by
    have h1 := comb_congr (S := S) (x := fun i => x (i + 1)) (y := fun i => y (i + 1)) (j := j) fun i hi => h (i + 1) (by simp; omega)
    have h0 := h 0 (by simp)
    show M ∣ x 0 * ix s j + comb S (fun i => x (i + 1)) j - (y 0 * ix s j + comb S (fun i => y (i + 1)) j)
    exact dv2 (ix s j) 1 h0 h1 (by grind)
theorem comb_lin {j : Nat} (a b : Int) : ∀ {S : List (List Int)} {x y : Fn}, comb S (fun i => a * x i + b * y i) j = a * comb S x j + b * comb S y j
  | [], _, _ => by simp [comb]
  | s :: S, x, y => by
    simp only [comb]
    rw [comb_lin a b]
    grind
theorem comb_zero {j : Nat} : ∀ {S : List (List Int)} {x : Fn}, (∀ i, i < S.length → x i = 0) → comb S x j = 0
  | [], _, _ => rfl
  | s :: S, x, h => by
    simp only [comb]
    rw [h 0 (by simp), comb_zero fun i hi => h (i + 1) (by simp; omega)]
    simp
theorem comb_unit {j p : Nat} : ∀ {S : List (List Int)} {x : Fn}, p < S.length → (∀ i, i < S.length → x i = if i = p then 1 else 0) → comb S x j = ix (S.getD p []) j := by
  induction p with
  | zero =>
    intro S x hp h
    cases S with
    | nil => simp at hp
    | cons s S =>
      simp only [comb]
      rw [h 0 (by simp), comb_zero fun i hi => by rw [h (i + 1) (by simp; omega)]; simp]
      simp
  | succ p ih =>
    intro S x hp h
    cases S with
    | nil => simp at hp
    | cons s S =>
      simp only [comb]
      rw [h 0 (by simp), ih (S := S) (x := fun i => x (i + 1)) (by simpa using hp) fun i hi => by rw [h (i + 1) (by simp; omega)]; simp]
      simp
theorem comb_sp {M : Int} {n : Nat} : ∀ {S : List (List Int)} {x : Fn}, Sp M n S (fun j => comb S x j)
  | [], _ => .zero fun _ _ => dv0 rfl
  | s :: S, x => by
    have h1 := comb_sp (M := M) (n := n) (S := S) (x := fun i => x (i + 1))
    exact ((h1.mono fun t ht => List.mem_cons_of_mem s ht).comb (Sp.mem List.mem_cons_self) 1 (x 0)).congr fun i hi => dv0 (by simp only [comb]; grind)
/-- rows that carry how they are made -/
def Car (w n : Nat) (S : List (List Int)) (row : List Int) : Prop := ∀ j, j < n → (2 : Int) ^ w ∣ ix row j - comb S (fun i => ix row (n + i)) j
section
variable {w n : Nat} {S : List (List Int)}
theorem car_lin : Lin w (n + S.length) (Car w n S) := ⟨fun a b ha hb h h' j hj => by
  have e0 := sum_mod (w := w) ha hb (show j < n + S.length by omega)
  have e1 : (2 : Int) ^ w ∣ comb S (fun i => ix (sumV w a b) (n + i)) j - comb S (fun i => 1 * ix a (n + i) + 1 * ix b (n + i)) j := comb_congr fun i hi => by
    have := sum_mod (w := w) ha hb (show n + i < n + S.length by omega)
    exact dv1 1 this (by grind)
  rw [comb_lin] at e1
  exact dv2 1 1 (dv2 1 (-1) e0 e1 rfl) (dv2 1 1 (h j hj) (h' j hj) rfl) (by grind), fun a f ha h j hj => by
  have e0 := mul_mod (w := w) (f := f) ha (show j < n + S.length by omega)
  have e1 : (2 : Int) ^ w ∣ comb S (fun i => ix (mulV w a f) (n + i)) j - comb S (fun i => f * ix a (n + i) + 0 * ix a (n + i)) j := comb_congr fun i hi => by
    have := mul_mod (w := w) (f := f) ha (show n + i < n + S.length by omega)
    exact dv1 1 this (by grind)
  rw [comb_lin] at e1
  exact dv3 1 (-1) f e0 e1 (h j hj) (by grind)⟩
theorem car_unit {p : Nat} {s : List Int} (hs : S[p]? = some s) (hl : s.length = n) : Car w n S (s ++ unitV S.length p) := fun j hj => by
  have hp := (List.getElem?_eq_some_iff.mp hs).1
  have e : ∀ i, ix (s ++ unitV S.length p) (n + i) = ix (unitV S.length p) i := fun i => by rw [← hl]; exact ix_append_r
  rw [ix_append_l (by omega), comb_unit (p := p) hp fun i hi => by rw [e, ix_unit hi]]
  rw [List.getD_eq_getElem?_getD, hs]
  exact dv0 (by simp)
/-- what is left of a vector, and how it was taken off -/
def CarV (w n : Nat) (S : List (List Int)) (v row : List Int) : Prop := ∀ j, j < n → (2 : Int) ^ w ∣ ix row j - (ix v j + comb S (fun i => ix row (n + i)) j)
theorem carV_start {v : List Int} (hl : v.length = n) : CarV w n S v (v ++ List.replicate S.length 0) := fun j hj => by
  have e : ∀ i, ix (v ++ List.replicate S.length 0) (n + i) = 0 := fun i => by rw [← hl, ix_append_r, ix_zero]
  rw [ix_append_l (by omega), comb_zero fun i _ => e i]
  exact dv0 (by omega)
theorem carV_red {v a r : List Int} {c : Nat} (ha : IsVec w (n + S.length) a) (hr : IsVec w (n + S.length) r) (h0 : 0 < ix r c) (hc : c < n + S.length) (h : CarV w n S v a) (h' : Car w n S r) : CarV w n S v (redV w a c r) := fun j hj => by
  have a0 := (ha.at hc).1
  generalize ht : ix a c / ix r c = t
  have rm : ∀ i, i < n + S.length → (2 : Int) ^ w ∣ ix (redV w a c r) i - (ix a i - t * ix r i) := fun i hi => ht ▸ red_mod ha hr hi h0 a0
  have e1 : (2 : Int) ^ w ∣ comb S (fun i => ix (redV w a c r) (n + i)) j - comb S (fun i => 1 * ix a (n + i) + (-t) * ix r (n + i)) j := comb_congr fun i hi => dv1 1 (rm (n + i) (by omega)) (by grind)
  rw [comb_lin] at e1
  exact dv2 1 (-1) (dv2 1 1 (rm j (by omega)) (h j hj) rfl) (dv2 1 t e1 (h' j hj) rfl) (by grind)
theorem sp_swap {T : List (List Int)} {r s : List Int} (h : ∀ i, i < n → ix r i = ix s i) (f : Fn) : SpB w n (T ++ [r]) f ↔ SpB w n (T ++ [s]) f := by
  have go : ∀ {r s : List Int}, (∀ i, i < n → ix r i = ix s i) → SpB w n (T ++ [r]) f → SpB w n (T ++ [s]) f := fun {r s} h q => by
    refine q.sub fun t ht => ?_
    rcases List.mem_append.mp ht with z | z
    · exact .mem (List.mem_append_left _ z)
    · simp at z
      subst z
      exact (Sp.mem (s := s) (S := T ++ [s]) (by simp)).congr fun i hi => dv0 (by rw [h i hi]; omega)
  exact ⟨go h, go fun i hi => (h i hi).symm⟩
end
/-! ### walks by which things change -/
theorem walkD_enumT {K : PySem.W.Frag} {H1 : Hp} {q : Addr} {vs : List V} {ι : Type} {enc : ι → PyData} {xs : List ι} (hq : SqT K H1 q vs) (hxs : DpAll K H1 vs (xs.map enc)) : WalkD K (IteT K q) H1 (xs.zipIdx.map fun q => .tuple [.int (q.2 : Nat), enc q.1]) := fun H e => by
  have hq' := seqT_mono e hq
  have l1 := dpA_len hxs
  rw [List.length_map] at l1
  refine ⟨fun i hi => ⟨vs, vs[i]'(by simp at hi; omega), hq', by rw [List.getElem?_eq_getElem]⟩, ⟨vs, hq', by simp; omega⟩, fun i z H' d hd y => ?_⟩
  obtain ⟨T, x', rfl, hT, rfl, h1⟩ := y
  rw [List.getElem?_map, Option.map_eq_some_iff] at hd
  obtain ⟨⟨x1, j⟩, hj, rfl⟩ := hd
  rw [List.getElem?_zipIdx, Option.map_eq_some_iff] at hj
  obtain ⟨x2, hx2, e2⟩ := hj
  cases e2
  obtain ⟨v1, hv1, dv1⟩ := dpA_get hxs (i := i) (d := enc x1) (by rw [List.getElem?_map, hx2]; rfl)
  have e3 := h1 vs hq'
  rw [hv1] at e3
  cases e3
  refine ⟨Same.new hT, .tup (SqT.of upd_same) (.cons ?_ (.cons (dp_mono (e.trans (Same.new hT)) dv1) .nil))⟩
  have : (0 + i) = i := by omega
  rw [this]
  exact .int _
theorem walkD_enumL {K : PySem.W.Frag} {H1 : Hp} {q : Addr} {vs : List V} {ι : Type} {enc : ι → PyData} {xs : List ι} (hq : SqL K H1 q vs) (hxs : DpAll K H1 vs (xs.map enc)) : WalkD K (Ite K q) H1 (xs.zipIdx.map fun q => .tuple [.int (q.2 : Nat), enc q.1]) := fun H e => by
  have hq' := e.seq hq
  have l1 := dpA_len hxs
  rw [List.length_map] at l1
  refine ⟨fun i hi => ⟨vs, vs[i]'(by simp at hi; omega), hq', by rw [List.getElem?_eq_getElem]⟩, ⟨vs, hq', by simp; omega⟩, fun i z H' d hd y => ?_⟩
  obtain ⟨T, x', rfl, hT, rfl, h1⟩ := y
  rw [List.getElem?_map, Option.map_eq_some_iff] at hd
  obtain ⟨⟨x1, j⟩, hj, rfl⟩ := hd
  rw [List.getElem?_zipIdx, Option.map_eq_some_iff] at hj
  obtain ⟨x2, hx2, e2⟩ := hj
  cases e2
  obtain ⟨v1, hv1, dv1⟩ := dpA_get hxs (i := i) (d := enc x1) (by rw [List.getElem?_map, hx2]; rfl)
  have e3 := h1 vs hq'
  rw [hv1] at e3
  cases e3
  refine ⟨Same.new hT, .tup (SqT.of upd_same) (.cons ?_ (.cons (dp_mono (e.trans (Same.new hT)) dv1) .nil))⟩
  have : (0 + i) = i := by omega
  rw [this]
  exact .int _
section
variable {X : Cx} {F : Hp} {ρ : Rho} {a : Expr} {elts : List Expr} {kk : Nat} {tpos p pos : Pos} {ι : Type} {enc : ι → PyData} {xs : List ι}
theorem im_enumT (hm : X.mg "enumerate" = none) (ha : ED X F ρ a (.tuple (xs.map enc))) (hi : ∀ x ∈ xs, imm (enc x) = true) (hg : Gl X "enumerate" := by rfl) (hs : starEach [a] X.env = [(false, eval a X.env)] := by rfl) :
    ∀ σ H R, EnvOk X.K F H σ ρ → (∀ J H1, Same H H1 → WalkM X.K J H1 (TK X.K H1) (xs.zipIdx.map fun q => .tuple [.int (q.2 : Nat), enc q.1]) → R J H1) → wI X (.Tuple elts kk tpos) (.Call (.Name "enumerate" p) [a] [] pos) σ H R := fun σ H R E k => by
  refine ofI (pi_enumT hg hm pa_w hs) ?_
  refine (ea_cons ha ea_nil hs) σ H _ E fun vs H1 e1 dvs => ?_
  obtain ⟨v, rfl, dv⟩ := dpA1 dvs
  obtain ⟨q, vs, rfl, hq, hxs⟩ := dp_tup dv
  exact ⟨q, vs, rfl, hq, k _ _ e1 fun H2 t => walkD_enumT (t _ _ hq) (dpA_tk t _ (immL_iff.mpr fun d hd => by obtain ⟨x, hx, rfl⟩ := List.mem_map.mp hd; exact hi x hx) hxs) H2 (Same.refl _)⟩
theorem im_enumL (hm : X.mg "enumerate" = none) (ha : ED X F ρ a (.list (xs.map enc))) (hi : ∀ x ∈ xs, imm (enc x) = true) (hg : Gl X "enumerate" := by rfl) (hs : starEach [a] X.env = [(false, eval a X.env)] := by rfl) :
    ∀ σ H R, EnvOk X.K F H σ ρ → (∀ J H1, Same H H1 → WalkM X.K J H1 (SK H1) (xs.zipIdx.map fun q => .tuple [.int (q.2 : Nat), enc q.1]) → R J H1) → wI X (.Tuple elts kk tpos) (.Call (.Name "enumerate" p) [a] [] pos) σ H R := fun σ H R E k => by
  refine ofI (pi_enum hg hm pa_w hs) ?_
  refine (ea_cons ha ea_nil hs) σ H _ E fun vs H1 e1 dvs => ?_
  obtain ⟨v, rfl, dv⟩ := dpA1 dvs
  obtain ⟨q, vs, rfl, hq, hxs⟩ := dp_lst dv
  exact ⟨q, vs, rfl, hq, k _ _ e1 fun H2 t => walkD_enumL (t.lst hq) (dpA_tk (t.tk (K := X.K)) _ (immL_iff.mpr fun d hd => by obtain ⟨x, hx, rfl⟩ := List.mem_map.mp hd; exact hi x hx) hxs) H2 (Same.refl _)⟩
end
theorem zipIdx_get {ι : Type} {xs : List ι} {i : Nat} {a : ι × Nat} (h : xs.zipIdx[i]? = some a) : xs[i]? = some a.1 ∧ a.2 = i := by
  rw [List.getElem?_zipIdx, Option.map_eq_some_iff] at h
  obtain ⟨x, hx, e⟩ := h
  cases e
  exact ⟨hx, by simp⟩
end DL
end
section
namespace DL
open WM
/-! ### annihilators -/
theorem comb_snoc {s : List Int} {j : Nat} : ∀ {S : List (List Int)} {x : Fn}, comb (S ++ [s]) x j = comb S x j + x S.length * ix s j
  | [], x => by simp [comb]
  | t :: S, x => by
    show x 0 * ix t j + comb (S ++ [s]) (fun i => x (i + 1)) j = _
    rw [comb_snoc]
    simp only [comb, List.length_cons]
    grind
theorem comb_ext {j j' : Nat} : ∀ {S T : List (List Int)} {x : Fn}, S.length = T.length → (∀ i, i < S.length → ix (S.getD i []) j = ix (T.getD i []) j') → comb S x j = comb T x j'
  | [], [], _, _, _ => rfl
  | [], _ :: _, _, h, _ => by simp at h
  | _ :: _, [], _, h, _ => by simp at h
  | s :: S, t :: T, x, hl, h => by
    simp only [comb]
    have h0 := h 0 (by simp)
    simp at h0
    rw [h0, comb_ext (S := S) (T := T) (by simpa using hl) fun i hi => by simpa using h (i + 1) (by simpa using hi)]
theorem comb_pick {j p : Nat} : ∀ {S : List (List Int)} {x : Fn}, p < S.length → (∀ i, i < S.length → ix (S.getD i []) j = if i = p then 1 else 0) → comb S x j = x p := by
  induction p with
  | zero =>
    intro S x hp h
    cases S with
    | nil => simp at hp
    | cons s S =>
      have h0 := h 0 (by simp)
      simp at h0
      have hz : comb S (fun i => x (i + 1)) j = 0 := by
        have : comb S (fun i => x (i + 1)) j = comb S (fun _ => 0) j := by
          have go : ∀ (T : List (List Int)) (y : Fn), (∀ i, i < T.length → ix (T.getD i []) j = 0) → comb T y j = 0 := by
            intro T
            induction T with
            | nil => intro y _; rfl
            | cons t T ih =>
              intro y hy
              have := hy 0 (by simp)
              simp at this
              simp only [comb]
              rw [this, ih _ fun i hi => by simpa using hy (i + 1) (by simpa using hi)]
              simp
          have hT : ∀ i, i < S.length → ix (S.getD i []) j = 0 := fun i hi => by simpa using h (i + 1) (by simpa using hi)
          rw [go S _ hT, go S _ hT]
        rw [this]
        exact comb_zero fun _ _ => rfl
      simp only [comb]
      rw [h0, hz]
      simp
  | succ p ih =>
    intro S x hp h
    cases S with
    | nil => simp at hp
    | cons s S =>
      have h0 := h 0 (by simp)
      simp at h0
      simp only [comb]
      rw [h0, ih (S := S) (x := fun i => x (i + 1)) (by simpa using hp) fun i hi => by simpa using h (i + 1) (by simpa using hi)]
      simp
theorem colsM_succ (n : Nat) (B : List (List Int)) : colsM (n + 1) B = colsM n B ++ [B.map fun v => ix v n] := by unfold colsM; rw [List.range_succ, List.map_append]; rfl
theorem colsM_len (n : Nat) (B : List (List Int)) : (colsM n B).length = n := by simp [colsM]
theorem ix_map {B : List (List Int)} {n i : Nat} (h : i < B.length) : ix (B.map fun v => ix v n) i = ix (B.getD i []) n := by
  unfold ix
  rw [List.getD_eq_getElem?_getD, List.getElem?_map, List.getD_eq_getElem?_getD (l := B), List.getElem?_eq_getElem h]
  simp
theorem comb_cols {B : List (List Int)} {i : Nat} (hi : i < B.length) (u : Fn) : ∀ n, comb (colsM n B) u i = dot n u (ix (B.getD i []))
  | 0 => rfl
  | n + 1 => by
    rw [colsM_succ, comb_snoc, comb_cols hi u n, colsM_len, ix_map hi]
    rfl
/-- the rows to be reduced: each column, and its unit -/
def annX (n : Nat) (B : List (List Int)) : List (List Int) := (colsM n B).zipIdx.map fun q => q.1 ++ unitV n q.2
theorem annX_len (n : Nat) (B : List (List Int)) : (annX n B).length = n := by simp [annX, colsM]
theorem annX_get {n i : Nat} {B : List (List Int)} (hi : i < n) : (annX n B).getD i [] = (colsM n B).getD i [] ++ unitV n i := by
  have h : i < (colsM n B).length := by rw [colsM_len]; exact hi
  unfold annX
  rw [List.getD_eq_getElem?_getD, List.getElem?_map, List.getElem?_zipIdx, List.getD_eq_getElem?_getD, List.getElem?_eq_getElem h]
  simp
theorem cols_get_len {n i : Nat} {B : List (List Int)} (hi : i < n) : ((colsM n B).getD i []).length = B.length := by
  unfold colsM
  rw [List.getD_eq_getElem?_getD, List.getElem?_map, List.getElem?_range hi]
  simp
def CarF (w n m : Nat) (S : List (List Int)) (f : Fn) : Prop := ∀ j, j < m → (2 : Int) ^ w ∣ f j - comb S (fun i => f (m + i)) j
section
variable {w n : Nat} {B : List (List Int)}
theorem annX_span (f : Fn) : SpB w (B.length + n) (annX n B) f ↔ CarF w n B.length (colsM n B) f := by
  constructor
  · intro h
    induction h with
    | zero h0 =>
      intro j hj
      rename_i v
      have h1 : (2 : Int) ^ w ∣ comb (colsM n B) (fun i => v (B.length + i)) j - comb (colsM n B) (fun _ => 0) j := comb_congr fun i hi => dv1 1 (h0 (B.length + i) (by rw [colsM_len] at hi; omega)) (by grind)
      rw [comb_zero fun _ _ => rfl] at h1
      exact dv2 1 (-1) (h0 j (by omega)) h1 (by grind)
    | @add u v s k hs h1 h2 ih =>
      intro j hj
      obtain ⟨i0, hi0, rfl⟩ := List.getElem_of_mem hs
      have hi0n : i0 < n := by rw [annX_len] at hi0; exact hi0
      have es : (annX n B)[i0] = (colsM n B).getD i0 [] ++ unitV n i0 := by
        have := annX_get (B := B) hi0n
        rw [List.getD_eq_getElem?_getD, List.getElem?_eq_getElem hi0] at this
        exact this
      rw [es] at h2
      have hcl := cols_get_len (B := B) hi0n
      have e0 : ix ((colsM n B).getD i0 [] ++ unitV n i0) j = ix ((colsM n B).getD i0 []) j := ix_append_l (by omega)
      have e1 : ∀ i, ix ((colsM n B).getD i0 [] ++ unitV n i0) (B.length + i) = ix (unitV n i0) i := fun i => by rw [← hcl]; exact ix_append_r
      have hc : (2 : Int) ^ w ∣ comb (colsM n B) (fun i => u (B.length + i)) j - comb (colsM n B) (fun i => 1 * v (B.length + i) + k * ix (unitV n i0) i) j := comb_congr fun i hi => by
        have := h2 (B.length + i) (by rw [colsM_len] at hi; omega)
        rw [e1] at this
        exact dv1 1 this (by grind)
      rw [comb_lin, comb_unit (p := i0) (x := ix (unitV n i0)) (by rw [colsM_len]; exact hi0n) fun i hi => ix_unit (by rw [colsM_len] at hi; exact hi)] at hc
      have hh := h2 j (by omega)
      rw [e0] at hh
      exact dv3 1 1 (-1) hh (ih j hj) hc (by grind)
  · intro h
    refine (comb_sp (M := 2 ^ w) (n := B.length + n) (S := annX n B) (x := fun i => f (B.length + i))).congr fun j hj => ?_
    rcases Nat.lt_or_ge j B.length with g | g
    · have e : comb (annX n B) (fun i => f (B.length + i)) j = comb (colsM n B) (fun i => f (B.length + i)) j := comb_ext (by rw [annX_len, colsM_len]) fun i hi => by
        rw [annX_len] at hi
        rw [annX_get hi, ix_append_l (by rw [cols_get_len hi]; exact g)]
      rw [e]
      exact h j g
    · obtain ⟨p, rfl⟩ : ∃ p, j = B.length + p := ⟨j - B.length, by omega⟩
      have e : comb (annX n B) (fun i => f (B.length + i)) (B.length + p) = f (B.length + p) := comb_pick (x := fun i => f (B.length + i)) (by rw [annX_len]; omega) fun i hi => by
        rw [annX_len] at hi
        have hcl := cols_get_len (B := B) hi
        have e1 : ix ((colsM n B).getD i [] ++ unitV n i) (B.length + p) = ix (unitV n i) p := by rw [← hcl]; exact ix_append_r
        rw [annX_get hi, e1, ix_unit (by omega)]
        by_cases q : p = i
        · subst q; simp
        · rw [if_neg q, if_neg (fun z => q z.symm)]
      rw [e]
      exact dv0 (by omega)
end
/-- the rows that are 0 in the first m columns -/
def zeroAt (m : Nat) (r : List Int) : Bool := !((r.take m).any fun i => i != 0)
theorem zeroAt_iff {m : Nat} {r : List Int} (h : m ≤ r.length) : zeroAt m r = true ↔ ∀ i, i < m → ix r i = 0 := by
  unfold zeroAt
  rw [Bool.not_eq_true', any_zero, List.length_take, Nat.min_eq_left h]
  exact ⟨fun h i hi => by rw [← ix_take hi]; exact h i hi, fun h i hi => by rw [ix_take hi]; exact h i hi⟩
section
variable {w n m lo : Nat} {D : List (List Int)}
theorem filt_hb (hb : HB w n lo D) (hD : ∀ r ∈ D, r.length = n) (hm : m ≤ n) : HB w n (max lo m) (D.filter (zeroAt m)) ∧ ∀ f, (SpB w n (D.filter (zeroAt m)) f ↔ SpB w n D f ∧ ∀ i, i < m → (2 : Int) ^ w ∣ f i) := by
  induction D generalizing lo with
  | nil => exact ⟨trivial, fun f => ⟨fun h => ⟨h, fun i hi => h.nil i (by omega)⟩, fun h => h.1⟩⟩
  | cons r rs ih =>
    obtain ⟨c, hc, hl, ht, hq, hs⟩ := hb
    have hrl := hD r List.mem_cons_self
    have hrs := fun s hs => hD s (List.mem_cons_of_mem r hs)
    obtain ⟨i1, i2⟩ := ih ht hrs
    by_cases g : m ≤ c
    · have zr : zeroAt m r = true := (zeroAt_iff (by omega)).mpr fun i hi => hl.2.1 i (by omega)
      have all : rs.filter (zeroAt m) = rs := List.filter_eq_self.mpr fun s hs' => by
        obtain ⟨d, hd, hld⟩ := ht.lead s hs'
        exact (zeroAt_iff (by have := hrs s hs'; omega)).mpr fun i hi => hld.2.1 i (by omega)
      rw [List.filter_cons, if_pos zr, all]
      refine ⟨⟨c, by omega, hl, ht, hq, hs⟩, fun f => ⟨fun h => ⟨h, fun i hi => h.at0 (by omega) fun s hs' => ?_⟩, fun h => h.1⟩⟩
      rcases List.mem_cons.mp hs' with q | q
      · subst q; rw [hl.2.1 i (by omega)]; exact Int.dvd_zero _
      · rw [ht.zero (by omega) s q]; exact Int.dvd_zero _
    · have zr : ¬ zeroAt m r = true := fun z => by
        have := (zeroAt_iff (by omega)).mp z c (by omega)
        have := hl.pos
        omega
      rw [List.filter_cons, if_neg zr]
      have e : max (c + 1) m = max lo m ∨ max lo m ≤ max (c + 1) m := by omega
      refine ⟨i1.le (by omega), fun f => ?_⟩
      rw [i2 f]
      constructor
      · rintro ⟨a, b⟩
        exact ⟨a.mono fun s hs' => List.mem_cons_of_mem _ hs', b⟩
      · rintro ⟨a, b⟩
        exact ⟨HB.rest hl ht hs a (b c (by omega)), b⟩
/-- without the first m columns -/
theorem drop_hb {k : Nat} (hb : HB w (m + k) lo D) (hlo : m ≤ lo) : HB w k (lo - m) (D.map (·.drop m)) ∧ ∀ f, (SpB w k (D.map (·.drop m)) f ↔ SpB w (m + k) D (fun i => if i < m then 0 else f (i - m))) := by
  have hz := fun (i : Nat) (hi : i < m) s (hs : s ∈ D) => hb.zero (i := i) (by omega) s hs
  have sp : ∀ D : List (List Int), (∀ i, i < m → ∀ s ∈ D, ix s i = 0) → ∀ f, (SpB w k (D.map (·.drop m)) f ↔ SpB w (m + k) D (fun i => if i < m then 0 else f (i - m))) := fun D hz f => by
    constructor
    · intro h
      induction h with
      | zero h0 =>
        refine .zero fun i hi => ?_
        by_cases q : i < m
        · rw [if_pos q]; exact Int.dvd_zero _
        · rw [if_neg q]; exact h0 _ (by omega)
      | @add u v s j hs h1 h2 ih =>
        obtain ⟨t, ht, rfl⟩ := List.mem_map.mp hs
        refine .add (k := j) ht ih fun i hi => ?_
        by_cases q : i < m
        · rw [if_pos q, if_pos q, hz i q t ht]; exact dv0 (by omega)
        · rw [if_neg q, if_neg q]
          have := h2 (i - m) (by omega)
          rw [ix_drop] at this
          have e : m + (i - m) = i := by omega
          rw [e] at this
          exact this
    · intro h
      have go : ∀ g, SpB w (m + k) D g → SpB w k (D.map (·.drop m)) (fun i => g (m + i)) := by
        intro g hg
        induction hg with
        | zero h0 => exact .zero fun i hi => h0 _ (by omega)
        | @add u v s j hs h1 h2 ih =>
          refine .add (k := j) (List.mem_map.mpr ⟨s, hs, rfl⟩) ih fun i hi => ?_
          rw [ix_drop]
          exact h2 _ (by omega)
      refine (go _ h).congr fun i hi => ?_
      show _ ∣ f i - (if m + i < m then 0 else f (m + i - m))
      rw [if_neg (by omega)]
      have e : m + i - m = i := by omega
      rw [e]
      exact dv0 (by omega)
  refine ⟨?_, sp D hz⟩
  clear sp
  induction D generalizing lo with
  | nil => trivial
  | cons r rs ih =>
    obtain ⟨c, hc, hl, ht, hq, hs⟩ := hb
    have lead : ∀ {s : List Int} {d : Nat}, m ≤ d → Lead w (m + k) s d → Lead w k (s.drop m) (d - m) := fun {s d} hd ⟨l1, l2, e, l3, l4⟩ => ⟨by omega, fun i hi => by rw [ix_drop]; exact l2 _ (by omega), e, l3, by rw [ix_drop, show m + (d - m) = d by omega]; exact l4⟩
    have spd : ∀ g, SpB w (m + k) rs g → SpB w k (rs.map (·.drop m)) (fun i => g (m + i)) := by
      intro g hg
      induction hg with
      | zero h0 => exact .zero fun i hi => h0 _ (by omega)
      | @add u v s j hs h1 h2 ih =>
        refine .add (k := j) (List.mem_map.mpr ⟨s, hs, rfl⟩) ih fun i hi => ?_
        rw [ix_drop]
        exact h2 _ (by omega)
    have i1 := ih ht (by omega) (fun i hi s hs' => hz i hi s (List.mem_cons_of_mem _ hs'))
    refine ⟨c - m, by omega, lead (by omega) hl, ?_, fun s hs' d hd => ?_, ?_⟩
    · have e : c + 1 - m = c - m + 1 := by omega
      rw [e] at i1
      exact i1
    · obtain ⟨t, ht', rfl⟩ := List.mem_map.mp hs'
      obtain ⟨d', hd', hld⟩ := ht.lead t ht'
      have : d' - m = d := (lead (by omega) hld).inj hd
      subst this
      rw [ix_drop, ix_drop, show m + (d' - m) = d' by omega]
      exact hq t ht' d' hld
    · have := spd _ hs
      rw [ix_drop, show m + (c - m) = c by omega]
      exact this.congr fun i hi => dv0 (by rw [ix_drop]; omega)
end
/-- the annihilator's basis, as the program makes it -/
noncomputable def annB (w n : Nat) (B : List (List Int)) : List (List Int) := ((basF w (B.length + n) (annX n B)).filter (zeroAt B.length)).map (·.drop B.length)
theorem isVec_annX {w n : Nat} {B : List (List Int)} (hw : 0 < w) (hB : ∀ v ∈ B, IsVec w n v) : ∀ v ∈ annX n B, IsVec w (B.length + n) v := fun v hv => by
  unfold annX at hv
  obtain ⟨q, hq, rfl⟩ := List.mem_map.mp hv
  obtain ⟨i, hi, e⟩ := List.getElem_of_mem hq
  have hm : q.1 ∈ colsM n B := by
    have : q.1 ∈ (colsM n B).zipIdx.map (·.1) := List.mem_map.mpr ⟨q, hq, rfl⟩
    simpa using this
  exact isVec_append (isVec_cols hB _ hm) (isVec_unit hw)
theorem annB_ok {w n : Nat} {B : List (List Int)} (hw : 0 < w) (hB : ∀ v ∈ B, IsVec w n v) : Bas w n (annB w n B) ∧ ∀ f, SpB w n (annB w n B) f ↔ Ann w n B f := by
  obtain ⟨⟨b1, b2⟩, b3⟩ := basF_ok (isVec_annX hw hB)
  obtain ⟨f1, f2⟩ := filt_hb (m := B.length) b2 (fun r hr => (b1 r hr).1) (by omega)
  obtain ⟨d1, d2⟩ := drop_hb (k := n) f1 (by omega)
  refine ⟨⟨fun r hr => ?_, d1.le (by omega)⟩, fun f => ?_⟩
  · unfold annB at hr
    obtain ⟨t, ht, rfl⟩ := List.mem_map.mp hr
    obtain ⟨t1, t2⟩ := b1 t (List.mem_filter.mp ht).1
    exact ⟨by rw [List.length_drop, t1]; omega, fun x hx => t2 x (List.mem_of_mem_drop hx)⟩
  · show SpB w n (((basF w (B.length + n) (annX n B)).filter (zeroAt B.length)).map (·.drop B.length)) f ↔ _
    rw [d2 f, f2, b3, annX_span]
    constructor
    · rintro ⟨h, _⟩ s hs
      obtain ⟨i, hi, rfl⟩ := List.getElem_of_mem hs
      have h1 := h i hi
      dsimp only at h1
      rw [if_pos hi] at h1
      have e : comb (colsM n B) (fun j => if B.length + j < B.length then 0 else f (B.length + j - B.length)) i = dot n f (ix B[i]) := by
        have e1 : (fun j => if B.length + j < B.length then 0 else f (B.length + j - B.length)) = f := by
          funext j
          rw [if_neg (by omega), Nat.add_sub_cancel_left]
        rw [e1, comb_cols hi, List.getD_eq_getElem?_getD, List.getElem?_eq_getElem hi]; rfl
      rw [e] at h1
      exact dv1 (-1) h1 (by omega)
    · intro h
      refine ⟨fun i hi => ?_, fun i hi => by rw [if_pos hi]; exact Int.dvd_zero _⟩
      dsimp only
      rw [if_pos hi]
      have e : comb (colsM n B) (fun j => if B.length + j < B.length then 0 else f (B.length + j - B.length)) i = dot n f (ix B[i]) := by
        have e1 : (fun j => if B.length + j < B.length then 0 else f (B.length + j - B.length)) = f := by
          funext j
          rw [if_neg (by omega), Nat.add_sub_cancel_left]
        rw [e1, comb_cols hi, List.getD_eq_getElem?_getD, List.getElem?_eq_getElem hi]; rfl
      rw [e]
      exact dv1 (-1) (h B[i] (List.getElem_mem hi)) (by omega)
end DL
end
section
namespace DL
open PySem PySem.Spec PyProof.Rows L2 WM
/-! ### comprehensions of two sources -/
theorem yes_of {σ : L2.St} {H : Hp} {Q : Bool → Hp → Prop} (h : Q true H) : tYes σ H Q := h
theorem iteT {p q : Prop} (h : p) : (if true = true then p else q) := by rw [if_pos rfl]; exact h
def IM (X : Cx) (F : Hp) (ρ : Rho) (tg iter : Expr) (items : List PyData) : Prop := ∀ σ H R, EnvOk X.K F H σ ρ → (∀ J H1, Same H H1 → WalkM X.K J H1 (fun H2 => Same F H2 ∧ TK X.K H1 H2) items → R J H1) → wI X tg iter σ H R
section
variable {X : Cx} {F : Hp} {ρ : Rho} {tg iter : Expr} {ds : List PyData} {q : Addr}
theorem imx_tup (h : ED X F ρ iter (.tuple ds)) (hm : ∀ d ∈ ds, imm d = true) : IM X F ρ tg iter ds := fun σ H R E k => im_tup h hm σ H R E fun J H1 e w => k J H1 e fun H2 t => w H2 t.2
theorem imx_lst (h : EV X F ρ iter (.ref q)) (hd : Dp X.K F (.ref q) (.list ds)) (hm : ∀ d ∈ ds, imm d = true) : IM X F ρ tg iter ds := fun σ H R E k => by
  refine ofI (pi_list pe_w) ?_
  refine h σ H _ E fun H1 e1 => ?_
  obtain ⟨q', xs, e, hq, hxs⟩ := dp_lst hd
  cases e
  have eF := E.2.2.trans e1
  exact ⟨q, rfl, ⟨xs, eF.seq hq⟩, k _ _ e1 fun H2 t => walkD_lst (t.1.seq hq) (dpA_mono t.1 hxs) H2 (Same.refl _)⟩
end
section
variable {X : Cx} {F : Hp} {ρ : Rho} {tg iter tg1 iter1 elt : Expr} {pos : Pos} {ι κ : Type} {items : List ι} {sub : ι → List κ} {enc : ι → PyData} {enc1 : κ → PyData} {res : ι → κ → PyData} {en : ι → Rho} {en1 : ι → κ → Rho} {g g1 : TG} {js js1 vs1 : List Nat} {scope : Scope} {own : List (Str × Nat)}
theorem tlc2_main (hi : IT X F ρ tg iter (items.map enc)) (hjs : ∀ j ∈ js, j ∈ own.map (·.2)) (tgo : ∀ i ∈ items, TgOk X.K g js (wipeR ρ (own.map (·.2))) (enc i) (en i))
    (hi1 : ∀ s H C cl fp, ∀ i ∈ items, IM (BlkX X scope s H C cl fp) F (en i) tg1 iter1 ((sub i).map enc1)) (hjs1 : ∀ j ∈ js1, j ∈ vs1) (tgo1 : ∀ i ∈ items, ∀ k ∈ sub i, TgOk X.K g1 js1 (wipeR (en i) vs1) (enc1 k) (en1 i k))
    (hel : ∀ s H C cl fp, ∀ i ∈ items, ∀ k ∈ sub i, ED (BlkX X scope s H C cl fp) F (en1 i k) elt (res i k))
    (him : ∀ i ∈ items, ∀ (z : Nat) (x : Slot), (en i)[z]? = some (some x) → immS x = true ∨ (z ∉ own.map (·.2) ∧ ρ[z]? = some (some x)))
    (hm : ∀ i ∈ items, ∀ k ∈ sub i, imm (res i k) = true) (hl : ((items.map fun i => (sub i).map (res i)).flatten).length ≤ 100000) {σ : L2.St} {H : Hp} {Q : VK} (E : EnvOk X.K F H σ ρ) (k : ∀ v H', Same H H' → Dp X.K H' v (.list ((items.map fun i => (sub i).map (res i)).flatten)) → Q v H') :
    tLc2 (wI X tg iter) g tYes (fun σ H R => ∀ s H0 C cl fp, wI (BlkX X scope s H0 C cl fp) tg1 iter1 σ H R) g1 tYes (fun σ H Q => ∀ s H0 C cl fp, wE (BlkX X scope s H0 C cl fp) elt σ H Q) (own.map (·.2)) vs1 σ H Q := by
  refine hi σ H _ E fun J H1 e1 w => fun D hD => ?_
  have eF := E.2.2.trans e1
  let n := items.length
  have hn : (items.map enc).length = n := by simp [n]
  let part := fun i : Nat => ((items.take i).map fun a => (sub a).map (res a)).flatten
  have mpart : ∀ i, ∀ d ∈ part i, imm d = true := fun i d hd => by
    obtain ⟨l, hl1, hl2⟩ := List.mem_flatten.mp hd
    obtain ⟨a, ha, rfl⟩ := List.mem_map.mp hl1
    obtain ⟨b, hb, rfl⟩ := List.mem_map.mp hl2
    exact hm a (List.mem_of_mem_take ha) b hb
  let Pv := fun (i : Nat) (H : Hp) => i ≤ n ∧ Same H1 H ∧ ∃ acc, H D = some (.lst acc) ∧ DpAll X.K H acc (part i)
  refine ⟨fun i m H => m = n - i ∧ Pv i H, ⟨n, by simp, Nat.zero_le _, Same.new hD, [], upd_same, by simp [part]; exact .nil⟩, ?_⟩
  rintro i m H' ⟨rfl, hin, s1, acc, ha, hacc⟩
  obtain ⟨w1, w2, w3⟩ := w H' s1
  by_cases hlt : i < n
  · right
    refine ⟨w1 i (by omega), Pv (i + 1), fun H2 p => ⟨n - (i + 1), by omega, rfl, p⟩, fun x H2 y => ?_⟩
    have hit : items[i]? = some items[i] := List.getElem?_eq_getElem hlt
    have hmem : items[i] ∈ items := List.getElem_mem hlt
    obtain ⟨s2, dx⟩ := w3 i x H2 (enc items[i]) (by rw [List.getElem?_map, hit]; rfl) y
    have E2 := ((E.mono ((e1.trans s1).trans s2)).wipe (own.map (·.2)))
    refine tgo _ hmem F _ _ x _ E2 dx fun σ2 E3 hw => ⟨by rw [hw _ hjs, wipe_wipe], ?_⟩
    refine yes_of (iteT ?_)
    have tk1 : items.take (i + 1) = items.take i ++ [items[i]] := by rw [List.take_succ, hit]; rfl
    have split : (items.map fun a => (sub a).map (res a)).flatten.length = (part i).length + ((sub items[i]).length + ((items.drop (i + 1)).map fun a => (sub a).map (res a)).flatten.length) := by
      have e : items = items.take i ++ (items[i] :: items.drop (i + 1)) := by rw [← List.drop_eq_getElem_cons hlt, List.take_append_drop]
      have e2 := congrArg (fun l => ((l.map fun a => (sub a).map (res a)).flatten).length) e
      rw [e2, List.map_append, List.flatten_append, List.length_append, List.map_cons, List.flatten_cons, List.length_append, List.length_map]
    generalize items[i] = a at *
    have hlen : (part i).length + (sub a).length ≤ 100000 := by omega
    intro s0 H0 C cl fp
    refine hi1 s0 H0 C cl fp a hmem σ2 H2 _ E3 fun J1 H4 e4 v => ?_
    have sH4 : Same H1 H4 := (s1.trans s2).trans e4
    let n1 := (sub a).length
    have hn1 : ((sub a).map enc1).length = n1 := by simp [n1]
    let Pv1 := fun (j : Nat) (H : Hp) => j ≤ n1 ∧ Same H1 H ∧ TK X.K H4 H ∧ ∃ acc, H D = some (.lst acc) ∧ DpAll X.K H acc (part i ++ ((sub a).take j).map (res a))
    refine ⟨fun j m H => m = n1 - j ∧ Pv1 j H, ⟨n1, by simp, Nat.zero_le _, sH4, TK.refl _, acc, e4 _ _ (s2 _ _ ha), by simpa using dpA_mono (s2.trans e4) hacc⟩, ?_⟩
    rintro j m H5 ⟨rfl, hjn, s5, t5, acc5, ha5, hacc5⟩
    obtain ⟨v1, v2, v3⟩ := v H5 ⟨eF.trans s5, t5⟩
    by_cases hlt1 : j < n1
    · right
      refine ⟨v1 j (by omega), Pv1 (j + 1), fun H2 p => ⟨n1 - (j + 1), by omega, rfl, p⟩, fun x1 H6 y1 => ?_⟩
      have hit1 : (sub a)[j]? = some (sub a)[j] := List.getElem?_eq_getElem hlt1
      have hmem1 : (sub a)[j] ∈ sub a := List.getElem_mem hlt1
      obtain ⟨s6, dx1⟩ := v3 j x1 H6 (enc1 (sub a)[j]) (by rw [List.getElem?_map, hit1]; rfl) y1
      have tk2 : (sub a).take (j + 1) = (sub a).take j ++ [(sub a)[j]] := by rw [List.take_succ, hit1]; rfl
      generalize (sub a)[j] = b at *
      have E6 : EnvOk X.K F H6 σ2 (en a) := by
        refine ⟨E3.1, fun z xx hz => ?_, (eF.trans s5).trans s6⟩
        obtain ⟨vv, q1, q2⟩ := E3.2.1 z xx hz
        refine ⟨vv, q1, ?_⟩
        rcases him a hmem z xx hz with q3 | ⟨q3, q4⟩
        · cases xx with
          | dat d => exact dp_tk ((TK.of e4).trans (t5.trans (TK.of s6))) d q3 q2
          | val u => exact q2
          | pr p => exact absurd q3 (by simp [immS])
        · obtain ⟨v0, q5, q6⟩ := E.2.1 z xx q4
          have hz2 : (wipe σ2 (own.map (·.2)))[z]? = (wipe (wipe σ (own.map (·.2))) (own.map (·.2)))[z]? := by rw [hw _ hjs]
          rw [wipe_wipe, wipe_at, wipe_at, if_neg q3, if_neg q3, q1, q5] at hz2
          cases hz2
          exact q6.mono (((e1.trans s5)).trans s6)
      refine tgo1 a hmem b hmem1 F _ _ x1 _ (E6.wipe vs1) dx1 fun σ3 E7 hw1 => ⟨by rw [hw1 _ hjs1, wipe_wipe], ?_⟩
      refine yes_of (iteT ?_)
      intro s0 H0 C cl fp
      refine hel s0 H0 C cl fp a hmem b hmem1 σ3 H6 _ E7 fun vv H7 s7 dv => ?_
      have l1 := dpA_len hacc5
      rw [List.length_append, List.length_map, List.length_take] at l1
      have hD7 : H7 D = some (.lst acc5) := s7 _ _ (s6 _ _ ha5)
      have t7 : TK X.K H7 (upd H7 D (.lst (acc5 ++ [vv]))) := (TK.refl H7).upd (by rw [hD7]; trivial)
      refine ⟨acc5, hD7, Nat.lt_of_lt_of_le (by omega : acc5.length < 100001) (by decide), hlt1, ?_, (t5.trans (TK.of (s6.trans s7))).trans t7, acc5 ++ [vv], upd_same, ?_⟩
      · intro c o hb
        have nb : c ≠ D := ne_of_none hb hD
        rw [upd_ne nb]
        exact s7 _ _ (s6 _ _ (s5 _ _ hb))
      · rw [tk2, List.map_append, ← List.append_assoc]
        refine dpA_snoc (dpA_tk t7 _ (immL_iff.mpr fun d hd => ?_) (dpA_mono (s6.trans s7) hacc5)) (dp_tk t7 _ (hm a hmem b hmem1) dv)
        rcases List.mem_append.mp hd with z | z
        · exact mpart i d z
        · obtain ⟨c, hc', rfl⟩ := List.mem_map.mp z
          exact hm a hmem c (List.mem_of_mem_take hc')
    · left
      have e : j = n1 := by omega
      subst e
      rw [hn1] at v2
      refine ⟨v2, hlt, s5, acc5, ha5, ?_⟩
      rw [List.take_length] at hacc5
      have e5 : part (i + 1) = part i ++ (sub a).map (res a) := by simp only [part]; rw [tk1]; simp
      rw [e5]
      exact hacc5
  · left
    have e : i = n := by omega
    subst e
    rw [hn] at w2
    refine ⟨w2, k _ _ (e1.trans s1) (.lst (SqL.of ha) ?_)⟩
    have e5 : part n = (items.map fun a => (sub a).map (res a)).flatten := by simp only [part, n]; rw [List.take_length]
    rw [← e5]
    exact hacc
theorem ed_lc2 (hc : X.calm = true) (hN : X.N.Nodup) (hi : IT X F ρ tg iter (items.map enc)) (ok : BlkOk X.N X.env.scope scope own) (hv : ∀ i ∈ vs1, i ∈ own.map (·.2))
    (hg : ∀ s H C cl fp, PG (BlkX X scope s H C cl fp) tg g) (hjs : ∀ j ∈ js, j ∈ own.map (·.2)) (tgo : ∀ i ∈ items, TgOk X.K g js (wipeR ρ (own.map (·.2))) (enc i) (en i))
    (hi1 : ∀ s H C cl fp, ∀ i ∈ items, IM (BlkX X scope s H C cl fp) F (en i) tg1 iter1 ((sub i).map enc1))
    (hg1 : ∀ s H C cl fp, PG (BlkX X scope s H C cl fp) tg1 g1) (hjs1 : ∀ j ∈ js1, j ∈ vs1) (tgo1 : ∀ i ∈ items, ∀ k ∈ sub i, TgOk X.K g1 js1 (wipeR (en i) vs1) (enc1 k) (en1 i k))
    (hel : ∀ s H C cl fp, ∀ i ∈ items, ∀ k ∈ sub i, ED (BlkX X scope s H C cl fp) F (en1 i k) elt (res i k))
    (him : ∀ i ∈ items, ∀ (z : Nat) (x : Slot), (en i)[z]? = some (some x) → immS x = true ∨ (z ∉ own.map (·.2) ∧ ρ[z]? = some (some x)))
    (hm : ∀ i ∈ items, ∀ k ∈ sub i, imm (res i k) = true) (hl : ((items.map fun i => (sub i).map (res i)).flatten).length ≤ 100000) (hs : ∀ x, foldedSetIterable iter X.env x = pure x := by intro _; rfl) (hs1 : ∀ env x, foldedSetIterable iter1 env x = pure x := by intro _ _; rfl) :
    ED X F ρ (.ListComp elt [⟨tg, iter, [], 0⟩, ⟨tg1, iter1, [], 0⟩] scope pos) (.list ((items.map fun i => (sub i).map (res i)).flatten)) := fun σ H Q E k =>
  ofE (pe_lc2 hc hN pi_w ok hv hg (fun _ _ _ _ _ => pts_nil) (fun s H0 C cl fp => ⟨fun pins st σ H R I h => h s H0 C cl fp pins st I⟩) hg1 (fun _ _ _ _ _ => pts_nil) (fun s H0 C cl fp => ⟨fun pins st σ H Q I h => h s H0 C cl fp pins st I⟩) hs hs1)
    (tlc2_main (σ := σ) (H := H) (Q := Q) hi hjs tgo hi1 hjs1 tgo1 hel him hm hl E k)
end
/-! ### name = [..] -/
def AD (X : Cx) (F : Hp) (ρ : Rho) (i : Nat) (y : Str) (py : Pos) (e : Expr) (spos : Pos) (d : PyData) : Prop := ∀ σ H (D : Ends), EnvOk X.K F H σ ρ → (∀ v H', Same H H' → Dp X.K H' v d → D.nx (σ.set i (some v)) H') → wS X (.Assign [.Name y py] e spos) D σ H
section
variable {X : Cx} {F : Hp} {ρ : Rho} {tg iter tg1 iter1 elt e : Expr} {pos spos py : Pos} {ι κ : Type} {items : List ι} {sub : ι → List κ} {enc : ι → PyData} {enc1 : κ → PyData} {res1 : ι → PyData} {res : ι → κ → PyData} {en : ι → Rho} {en1 : ι → κ → Rho} {g g1 : TG} {js js1 vs1 : List Nat} {scope : Scope} {own : List (Str × Nat)} {pr : ι → Bool} {y : Str} {d d' : PyData} {rest : List Stmt} {Kn : Rho → Prop} {P : PyData → Prop} {D : Ends}
theorem ad_eq {i : Nat} (h : AD X F ρ i y py e spos d) (q : d = d') : AD X F ρ i y py e spos d' := q ▸ h
theorem bd_ad (i : Nat) (h : AD X F ρ i y py e spos d) (k : BD X F (ρ.set i (some (.dat d))) rest Kn P) : BD X F ρ (.Assign [.Name y py] e spos :: rest) Kn P :=
  bd_step fun σ H D E q => h σ H D E fun v H' e1 dv => q _ _ _ k e1 ((E.mono e1).set dv)
theorem rb_ad (i : Nat) (h : AD X F ρ i y py e spos d) (k : RB X F (ρ.set i (some (.dat d))) rest D) : RB X F ρ (.Assign [.Name y py] e spos :: rest) D :=
  rb_step fun σ H E => h σ H _ E fun v H' e1 dv => k _ _ ((E.mono e1).set dv)
/-- .. as a value whose address is known from then on -/
theorem rb_adV (i : Nat) (h : AD X F ρ i y py e spos d) (k : ∀ H v, Same F H → Dp X.K H v d → RB X H (ρ.set i (some (.val v))) rest D) : RB X F ρ (.Assign [.Name y py] e spos :: rest) D :=
  rb_step fun σ H E => h σ H _ E fun v H' e1 dv => k H' v (E.2.2.trans e1) dv _ _ ((E.mono e1).anchor.setS (x := .val v) rfl)
theorem rb_setDV (i : Nat) {p : Pos} (h : ED X F ρ e d) (k : ∀ H v, Same F H → Dp X.K H v d → RB X H (ρ.set i (some (.val v))) rest D) (hN : X.N.Nodup) (hi : X.N[i]? = some y := by rfl) (hx : Loc X.env.scope y := by first | exact Or.inl rfl | exact Or.inr rfl)
    (hs : swapsWith e (some (.Name y p)) pos.line X.env = pure false := by rfl) (hf : X.fn y = true ∨ X.env.scope.names.lookup y = some .local := by first | exact .inl rfl | exact .inr rfl) : RB X F ρ (.Assign [.Name y p] e pos :: rest) D :=
  rb_setW i (fun σ H E => h σ H _ E fun v H' e1 dv => ⟨H', .val v, k H' v (E.2.2.trans e1) dv, (E.mono e1).anchor, rfl⟩) hN hi hx hs hf
theorem ad_lc {i : Nat} (hc : X.calm = true) (hN : X.N.Nodup) (hi : IT X F ρ tg iter (items.map enc)) (ok : BlkOk X.N X.env.scope scope own)
    (hg : ∀ s H C cl fp, PG (BlkX X scope s H C cl fp) tg g) (hjs : ∀ j ∈ js, j ∈ own.map (·.2)) (tgo : ∀ i ∈ items, TgOk X.K g js (wipeR ρ (own.map (·.2))) (enc i) (en i))
    (hel : ∀ s H C cl fp, ∀ i ∈ items, ED (BlkX X scope s H C cl fp) F (en i) elt (res1 i))
    (hm : ∀ i ∈ items, imm (res1 i) = true) (hl : items.length ≤ 100000) (hy : X.N[i]? = some y := by rfl) (hyl : X.env.scope.names.lookup y = some .local := by rfl) (hsw : swapsWith (.ListComp elt [⟨tg, iter, [], 0⟩] scope pos) (some (.Name y py)) spos.line X.env = pure true := by rfl) (hs : ∀ x, foldedSetIterable iter X.env x = pure x := by intro _; rfl) : AD X F ρ i y py (.ListComp elt [⟨tg, iter, [], 0⟩] scope pos) spos (.list (items.map res1)) := fun σ H D E k => by
  have eL : ((items.filter fun _ => true).map res1) = items.map res1 := by rw [List.filter_eq_self.mpr]; intros; rfl
  exact ofS (ps_setLc hc hN hy hyl hsw pi_w ok hg (fun _ _ _ _ _ => pts_nil) (te := fun σ H Q => ∀ s H0 C cl fp, wE (BlkX X scope s H0 C cl fp) elt σ H Q) (fun s H0 C cl fp => ⟨fun pins st σ H Q I h => h s H0 C cl fp pins st I⟩) hs)
    (tlc_main (pr := fun _ => true) hi hjs tgo (fun i hi σ H Q E k => k H (Same.refl H)) (fun i hi _ σ H Q E k s H0 C cl fp => hel s H0 C cl fp i hi σ H Q E k) hm hl E fun v H' e dv => k v H' e (eL ▸ dv))
theorem ad_lcIf {c : Expr} {i : Nat} (hc : X.calm = true) (hN : X.N.Nodup) (hi : IT X F ρ tg iter (items.map enc)) (ok : BlkOk X.N X.env.scope scope own)
    (hg : ∀ s H C cl fp, PG (BlkX X scope s H C cl fp) tg g) (hjs : ∀ j ∈ js, j ∈ own.map (·.2)) (tgo : ∀ i ∈ items, TgOk X.K g js (wipeR ρ (own.map (·.2))) (enc i) (en i))
    (hte : ∀ s H C cl fp, ∀ i ∈ items, TD (BlkX X scope s H C cl fp) F (en i) c (pr i))
    (hel : ∀ s H C cl fp, ∀ i ∈ items, pr i = true → ED (BlkX X scope s H C cl fp) F (en i) elt (res1 i))
    (hm : ∀ i ∈ items, imm (res1 i) = true) (hl : items.length ≤ 100000) (hy : X.N[i]? = some y := by rfl) (hyl : X.env.scope.names.lookup y = some .local := by rfl) (hsw : swapsWith (.ListComp elt [⟨tg, iter, [c], 0⟩] scope pos) (some (.Name y py)) spos.line X.env = pure true := by rfl) (hs : ∀ x, foldedSetIterable iter X.env x = pure x := by intro _; rfl) : AD X F ρ i y py (.ListComp elt [⟨tg, iter, [c], 0⟩] scope pos) spos (.list ((items.filter pr).map res1)) := fun σ H D E k => by
  exact ofS (ps_setLc hc hN hy hyl hsw pi_w ok hg (tt := fun σ H Q => ∀ s H0 C cl fp, wT (BlkX X scope s H0 C cl fp) c σ H Q) (fun s H0 C cl fp => pts_one ⟨fun pins st σ H Q I h => h s H0 C cl fp pins st I⟩) (te := fun σ H Q => ∀ s H0 C cl fp, wE (BlkX X scope s H0 C cl fp) elt σ H Q) (fun s H0 C cl fp => ⟨fun pins st σ H Q I h => h s H0 C cl fp pins st I⟩) hs)
    (tlc_main hi hjs tgo (fun i hi σ H Q E k s H0 C cl fp => hte s H0 C cl fp i hi σ H Q E k) (fun i hi hp σ H Q E k s H0 C cl fp => hel s H0 C cl fp i hi hp σ H Q E k) hm hl E k)
theorem ad_lc2 {i : Nat} (hc : X.calm = true) (hN : X.N.Nodup) (hi : IT X F ρ tg iter (items.map enc)) (ok : BlkOk X.N X.env.scope scope own) (hv : ∀ i ∈ vs1, i ∈ own.map (·.2))
    (hg : ∀ s H C cl fp, PG (BlkX X scope s H C cl fp) tg g) (hjs : ∀ j ∈ js, j ∈ own.map (·.2)) (tgo : ∀ i ∈ items, TgOk X.K g js (wipeR ρ (own.map (·.2))) (enc i) (en i))
    (hi1 : ∀ s H C cl fp, ∀ i ∈ items, IM (BlkX X scope s H C cl fp) F (en i) tg1 iter1 ((sub i).map enc1))
    (hg1 : ∀ s H C cl fp, PG (BlkX X scope s H C cl fp) tg1 g1) (hjs1 : ∀ j ∈ js1, j ∈ vs1) (tgo1 : ∀ i ∈ items, ∀ k ∈ sub i, TgOk X.K g1 js1 (wipeR (en i) vs1) (enc1 k) (en1 i k))
    (hel : ∀ s H C cl fp, ∀ i ∈ items, ∀ k ∈ sub i, ED (BlkX X scope s H C cl fp) F (en1 i k) elt (res i k))
    (him : ∀ i ∈ items, ∀ (z : Nat) (x : Slot), (en i)[z]? = some (some x) → immS x = true ∨ (z ∉ own.map (·.2) ∧ ρ[z]? = some (some x)))
    (hm : ∀ i ∈ items, ∀ k ∈ sub i, imm (res i k) = true) (hl : ((items.map fun i => (sub i).map (res i)).flatten).length ≤ 100000) (hy : X.N[i]? = some y := by rfl) (hyl : X.env.scope.names.lookup y = some .local := by rfl) (hsw : swapsWith (.ListComp elt [⟨tg, iter, [], 0⟩, ⟨tg1, iter1, [], 0⟩] scope pos) (some (.Name y py)) spos.line X.env = pure true := by rfl)
    (hs : ∀ x, foldedSetIterable iter X.env x = pure x := by intro _; rfl) (hs1 : ∀ env x, foldedSetIterable iter1 env x = pure x := by intro _ _; rfl) :
    AD X F ρ i y py (.ListComp elt [⟨tg, iter, [], 0⟩, ⟨tg1, iter1, [], 0⟩] scope pos) spos (.list ((items.map fun i => (sub i).map (res i)).flatten)) := fun σ H D E k =>
  ofS (ps_setLc2 hc hN hy hyl hsw pi_w ok hv hg (fun _ _ _ _ _ => pts_nil) (fun s H0 C cl fp => ⟨fun pins st σ H R I h => h s H0 C cl fp pins st I⟩) hg1 (fun _ _ _ _ _ => pts_nil) (fun s H0 C cl fp => ⟨fun pins st σ H Q I h => h s H0 C cl fp pins st I⟩) hs hs1)
    (tlc2_main hi hjs tgo hi1 hjs1 tgo1 hel him hm hl E k)
end
end DL
end
section
namespace DL
open PySem PySem.Spec PyProof.Rows L2 WM
/-! ### defs with a star parameter -/
structure CalS (P : Program) (w : World) (K : PySem.W.Frag) (mg : Str → Option Value) (base : Heap) (k : Nat) (x : Str) (sp : Sp) : Prop where
  ex : ∃ f : Addr, FnR P w K mg base CX0 k f sp ∧ mg x = some (.ref f) ∧ PySem.W.keepIn K (.ref f) = true
def spS (K : PySem.W.Frag) (np : Nat) (R : RelF) : Sp := fun vs H Q _ => ∃ ds1 ds2 P, ds1.length = np ∧ DpAll K H vs (ds1 ++ ds2) ∧ ds2.length ≤ 1000 ∧ R (ds1 ++ [.tuple ds2]) P ∧ ∀ d v H', P d → Same H H' → Dp K H' v d → Q v H'
theorem dpA_split {K : PySem.W.Frag} {H : Hp} : ∀ {ds1 ds2 : List PyData} {vs : List V}, DpAll K H vs (ds1 ++ ds2) → ∃ us ws, vs = us ++ ws ∧ DpAll K H us ds1 ∧ DpAll K H ws ds2
  | [], _, vs, h => ⟨[], vs, rfl, .nil, h⟩
  | _ :: _, _, _, .cons h1 h2 => by
    obtain ⟨us, ws, rfl, a, b⟩ := dpA_split h2
    exact ⟨_ :: us, ws, rfl, .cons h1 a, b⟩
theorem starR {P : Program} {w : World} {K : PySem.W.Frag} {mg : Str → Option Value} {base : Heap} {x pv : Str} {params : Arguments} {body : List Stmt} {scope : Scope} {f : Addr} {fd : FuncData} {N ps : List Str} {k np : Nat} {R : RelF} (F : FunD K x x params body scope [] [] f fd) (hm : mg x = some (.ref f)) (S : FnScope N (ps ++ [pv]) scope) (hnp : ps.length = np)
    (bd : ∀ (kV doc pm : Value) (an : Option Addr) (cdv ct : Value) (us rest : List Value), us.length = ps.length → bindArgs (PySem.W.fnOf x x params body scope .none kV doc pm an cdv ct) ⟨us ++ rest, []⟩ = (newTuple rest >>= fun t => pure (ps.zip us ++ [(pv, t)])))
    (hb : ∀ (cd : Value) (A : Around) (outer : List Env) (s : Shared) (H : Hp) (E : XK) ds P', Room k (A.deeper (envOfC x scope s.heap.objs.size f cd)) → R ds P' → BD (cxD P w K mg base N x scope f cd A outer s H E) noF (rho0 N ds) body (fun _ => P' .none) P') :
    CalS P w K mg base (k + 1) x (spS K np R) := by
  obtain ⟨oc, od, dV, kV, doc, pm, an, cdv, ct, osl, e, lk, hcd, hD, _⟩ := F.ex
  rcases hD with ⟨_, rfl⟩ | ⟨z, _⟩
  · subst e
    refine ⟨f, (StX.fn_star (sp := spR K R) lk hcd S StX.cxUp_none (bd kV doc pm an cdv ct) fun A outer s H vs Q E hr h => ?_).imp fun vs H Q E h => ?_, hm, F.kp⟩
    · obtain ⟨ds, P', h1, h2, k⟩ := h
      refine ⟨wB (cxD P w K mg base N x scope f cdv A outer s H E) body, PSs.nox pb_w, ?_⟩
      exact hb cdv A outer s H E ds P' hr h2 _ H _ (env_start h1) (fun d v H' q e dv => k d v H' q e dv) fun ρ' σ' H' q e _ => k .none _ H' q e .non
    · obtain ⟨ds1, ds2, P', l1, h1, l2, h2, k⟩ := h
      obtain ⟨us, ws, rfl, a, b⟩ := dpA_split h1
      refine ⟨us, ws, rfl, by rw [dpA_len a, l1, hnp], Nat.le_trans (by rw [dpA_len b]; exact l2) (by decide), fun p hp => ?_⟩
      have e := Same.new (o := .tup ws) hp
      exact ⟨_, P', dpA_app (dpA_mono e a) (.cons (.tup (SqT.of upd_same) (dpA_mono e b)) .nil), h2, fun d v H' q e' dv => k d v H' q (e.trans e') dv⟩
  · exact absurd rfl z
section
variable {X : Cx} {F : Hp} {ρ : Rho} {e f : Expr} {es : List Expr} {pos p : Pos} {ds : List PyData} {P : PyData → Prop} {d : PyData} {x : Str}
theorem pe_callP {k : Nat} {f : Addr} {sp : Sp} {E : XK} {t : TA} (F : FnR X.prog X.w X.K X.mg X.base CX0 k f sp) (hr : Room k X.A) (hg : Gl X x) (hm : X.mg x = some (.ref f)) (hk : PySem.W.keepIn X.K (.ref f) = true) (hx : Passes CX0 X E)
    (ha : PA X (e :: es) t) (hdb : (x == ("__debug__" : Str)) = false := by decide) (he : starEach (e :: es) X.env = (false, eval e X.env) :: starEach es X.env := by rfl) (hpl : (backTo pos (starEach es X.env)).any (·.1) = false := by rfl) :
    PE X (.Call (.Name x p) (e :: es) [] pos) (fun σ H Q => t σ H fun vs H1 => sp vs H1 Q E) := by
  refine ⟨fun pins s σ H Q I h => ?_⟩
  refine wpAny_Call_Name_kw (ld_glob I hg hm ?_ hdb)
  refine PySem.W.callWith_K (h₀ := X.base) I.ok.mod.kin hk (thn (ha.run pos pins s σ H _ I h) fun us s1 ⟨vs, H1, I1, r, q⟩ => ⟨I1.kIn, ?_⟩) he hpl
  exact wpAny_call (run_fnR F hr hx I1 r q)
theorem er_callS {k j np : Nat} {R : RelF} (c : CalS X.prog X.w X.K X.mg X.base k x (spS X.K np R)) (hr : Room j X.A) (hk : k ≤ j) (ha : EA X F ρ (e :: es) ds) (hR : R (ds.take np ++ [.tuple (ds.drop np)]) P) (hl : np ≤ ds.length ∧ ds.length ≤ 1000 := by decide) (hg : Gl X x := by rfl)
    (hdb : (x == ("__debug__" : Str)) = false := by decide) (he : starEach (e :: es) X.env = (false, eval e X.env) :: starEach es X.env := by rfl) (hpl : (backTo pos (starEach es X.env)).any (·.1) = false := by rfl) :
    ER X F ρ (.Call (.Name x p) (e :: es) [] pos) P := fun σ H Q E k => by
  obtain ⟨f, FR, hm, kp⟩ := c.ex
  refine ofE (pe_callP FR (hr.mono hk) hg hm kp pass0 pa_w hdb he hpl) ?_
  refine ha σ H _ E fun vs H1 e1 dvs => ⟨ds.take np, ds.drop np, P, by rw [List.length_take]; omega, by rw [List.take_append_drop]; exact dvs, by rw [List.length_drop]; omega, hR, fun d v H' hp e2 dv => k d v H' hp (e1.trans e2) dv⟩
theorem ed_callS {k j np : Nat} {R : RelF} (c : CalS X.prog X.w X.K X.mg X.base k x (spS X.K np R)) (hr : Room j X.A) (hk : k ≤ j) (ha : EA X F ρ (e :: es) ds) (hR : R (ds.take np ++ [.tuple (ds.drop np)]) (· = d)) (hl : np ≤ ds.length ∧ ds.length ≤ 1000) (hg : Gl X x := by rfl)
    (hdb : (x == ("__debug__" : Str)) = false := by decide) (he : starEach (e :: es) X.env = (false, eval e X.env) :: starEach es X.env := by rfl) (hpl : (backTo pos (starEach es X.env)).any (·.1) = false := by rfl) :
    ED X F ρ (.Call (.Name x p) (e :: es) [] pos) d := ed_of (er_callS c hr hk ha hR hl hg hdb he hpl)
end
/-- what a tuple of bases is -/
abbrev dMs (Bs : List (List (List Int))) : PyData := .tuple (Bs.map fun B => dM B)
abbrev dLMs (Bs : List (List (List Int))) : PyData := .list (Bs.map fun B => dM B)
end DL
end
section
namespace L2
open PySem PySem.Spec PyProof.Rows
section
variable {X : Cx} {k i : Nat} {f C : Addr} {sp : Sp} {E : XK} {x : Str} {e : Expr} {es : List Expr} {t : TA} {p pos : Pos}
/-- x(e, .., *y), x a class of the module -/
theorem pe_makeS (M : Mk X.K C f) (F : FnR X.prog X.w X.K X.mg X.base CX0 k f sp) (hr : Room (k + 1) X.A) (hg : Gl X x) (hm : X.mg x = some (.ref C)) (hx : Passes CX0 X E) (ha : PA X (e :: es) t) (hdb : (x == ("__debug__" : Str)) = false := by decide)
    (he : starEach (e :: es) X.env = (false, eval e X.env) :: starEach es X.env := by rfl) (hst : (backTo pos (starEach es X.env)).any (·.1) = true := by rfl) : PE X (.Call (.Name x p) (e :: es) [] pos) (StX.tMakeR C sp E t) := by
  refine ⟨fun pins s σ H Q I h => ?_⟩
  refine wpAny_Call_Name_kw (ld_glob I hg hm ?_ hdb)
  refine PySem.W.callWith_S2 (h₀ := X.base) I.ok.mod.kin M.kp (thn (ha.run pos pins s σ H _ I h) fun us s1 ⟨vs, H1, I1, r, q⟩ => ⟨I1.kIn, ?_⟩) he hst
  exact StX.run_makeR M F hr hx I1 r q
/-- x(e, ..), x a local that holds a class -/
theorem pe_makeL (i : Nat) (M : Mk X.K C f) (F : FnR X.prog X.w X.K X.mg X.base CX0 k f sp) (hr : Room (k + 1) X.A) (hN : X.N[i]? = some x) (hv : Vis X.env.scope x) (hx : Passes CX0 X E) (ha : PA X (e :: es) t) (hdb : (x == ("__debug__" : Str)) = false := by decide) (hcd : (x == ("__classdict__" : Str)) = false := by decide)
    (he : starEach (e :: es) X.env = (false, eval e X.env) :: starEach es X.env := by rfl) (hpl : (backTo pos (starEach es X.env)).any (·.1) = false := by rfl) : PE X (.Call (.Name x p) (e :: es) [] pos) (fun σ H Q => σ[i]? = some (some (.ref C)) ∧ StX.tMakeR C sp E t σ H Q) := by
  refine ⟨fun pins s σ H Q I h => ?_⟩
  obtain ⟨h0, h⟩ := h
  refine wpAny_Call_Name_kw (thn ((pe_var hN hv hdb hcd).run pins s σ H (fun v H' => v = .ref C ∧ H' = H) I ⟨_, h0, rfl, rfl⟩) fun u s1 ⟨v, H1, I1, r1, e1, e2⟩ => ?_)
  subst e1 e2
  obtain rfl : u = Value.ref C := r1
  refine PySem.W.callWith_K (h₀ := X.base) I1.ok.mod.kin M.kp (thn (ha.run pos pins s1 σ H1 _ I1 h) fun us s2 ⟨vs, H2, I2, r, q⟩ => ⟨I2.kIn, ?_⟩) he hpl
  exact StX.run_makeR M F hr hx I2 r q
theorem pe_makeLS (i : Nat) (M : Mk X.K C f) (F : FnR X.prog X.w X.K X.mg X.base CX0 k f sp) (hr : Room (k + 1) X.A) (hN : X.N[i]? = some x) (hv : Vis X.env.scope x) (hx : Passes CX0 X E) (ha : PA X (e :: es) t) (hdb : (x == ("__debug__" : Str)) = false := by decide) (hcd : (x == ("__classdict__" : Str)) = false := by decide)
    (he : starEach (e :: es) X.env = (false, eval e X.env) :: starEach es X.env := by rfl) (hst : (backTo pos (starEach es X.env)).any (·.1) = true := by rfl) : PE X (.Call (.Name x p) (e :: es) [] pos) (fun σ H Q => σ[i]? = some (some (.ref C)) ∧ StX.tMakeR C sp E t σ H Q) := by
  refine ⟨fun pins s σ H Q I h => ?_⟩
  obtain ⟨h0, h⟩ := h
  refine wpAny_Call_Name_kw (thn ((pe_var hN hv hdb hcd).run pins s σ H (fun v H' => v = .ref C ∧ H' = H) I ⟨_, h0, rfl, rfl⟩) fun u s1 ⟨v, H1, I1, r1, e1, e2⟩ => ?_)
  subst e1 e2
  obtain rfl : u = Value.ref C := r1
  refine PySem.W.callWith_S2 (h₀ := X.base) I1.ok.mod.kin M.kp (thn (ha.run pos pins s1 σ H1 _ I1 h) fun us s2 ⟨vs, H2, I2, r, q⟩ => ⟨I2.kIn, ?_⟩) he hst
  exact StX.run_makeR M F hr hx I2 r q
end
/-! ### == and != of instances with an __eq__ of their own -/
section
variable {prog : Program} {w : World} {A : Around} {E : Value → Shared → Prop} {s : Shared} {K : PySem.W.Frag} {x y C f : Addr} {ox oy : Obj} {od od' : Option Obj}
theorem ifBound_objNe {M : Model} {args : List Value} {Q : Option Value → Shared → Prop} (X : K.In s.heap) (I : PySem.W.InstAt s.heap x ox C od) (hs : PySem.W.findIn K (.ref C) "__ne__" = some (some (.builtin "object.__ne__")))
    (h : wpAny M A (call (.builtin "object.__ne__") (.ref x :: args)) (fun v => Q (some v)) E s) : wpAny M A (callSpecialIfBound? (.ref x) "__ne__" args) Q E s := by
  simp only [callSpecialIfBound?, bindSpecialIfBound?]
  refine wpAny_holding (wpAny_bind (wpAny_bind (wpAny_bind (I.type.here ((PySem.W.looks_findIn X hs).here ?_)))))
  refine wpAny_bind (wpAny_askSetting (wpAny_ite ?_))
  have fin : wpAny M A (call (.builtin "object.__ne__") ([.ref x] ++ args) >>= fun v => pure (some v)) Q E s := wpAny_bind (wpAny_mono h (fun v s' h' => wpAny_pure h') fun _ _ h' => h')
  split
  · exact wpAny_bind (wpAny_of_eq (F.cmp_object.ne.bind _) (wpAny_pure (by exact fin)))
  · exact wpAny_tryCatch (wpAny_bind (wpAny_of_eq (F.cmp_object.ne.bind _) (wpAny_pure (by exact fin))))
theorem entry_objNe {Q : Fin → Shared → Prop} (X : K.In s.heap) (I : PySem.W.InstAt s.heap x ox C od) (hu : A.units < cLine) (hs : PySem.W.findIn K (.ref C) "__eq__" = some (some (.ref f))) (hf : PySem.W.isFn K (.ref f) = true)
    (h : wpAny (model prog w) A (call (.ref f) [.ref x, .ref y]) (fun v s' => ∃ b, v = .bool b ∧ Q (.done (.ret (.bool (!b)))) s') E s) :
    wpAny (model prog w) A (Builtin.«object.__ne__» ⟨[.ref x, .ref y], []⟩) Q E s := by
  unfold Builtin.«object.__ne__»
  repeat (first
    | with_reducible refine wpAny_cRoomFor hu ?_
    | (refine wpAny_bind (m := callSpecialIfBound? (.ref x) (Str.ofString "__eq__") [.ref y])
        (PySem.W.ifBound_K X I hs hf (wpAny_mono h (fun r s' hr => by
          obtain ⟨b, rfl, hq⟩ := hr
          repeat (first | exact hq | exact wpAny_pure hq | exact wpAny_truthy_bool hq | (refine wpAny_bind (m := truthy (.bool _)) (wpAny_truthy_bool ?_)) | wp_step)) fun _ _ e => e)))
    | wp_step)
theorem ne_K {Q : Value → Shared → Prop} (hu : A.units + 1 < cLine) (X : K.In s.heap) (I : PySem.W.InstAt s.heap x ox C od) (J : PySem.W.InstAt s.heap y oy C od') (hm : PySem.W.mroIn K C (.type "object") = some true) (hn : PySem.W.findIn K (.ref C) "__ne__" = some (some (.builtin "object.__ne__")))
    (hs : PySem.W.findIn K (.ref C) "__eq__" = some (some (.ref f))) (hf : PySem.W.isFn K (.ref f) = true)
    (h : wpAny (model prog w) A.in1 (call (.ref f) [.ref x, .ref y]) (fun v s' => ∃ b, v = .bool b ∧ Q (.bool (!b)) s') E s) : wpAny (model prog w) A (richCompare .NotEq (.ref x) (.ref y)) Q E s := by
  have one : wpAny (model prog w) A (tryCompare (.ref x) "__ne__" (.ref y)) (fun r s' => ∃ b, r = some (.bool b) ∧ Q (.bool b) s') E s := by
    unfold tryCompare
    refine wpAny_bind (ifBound_objNe X I hn (wpAny_call (codeAny_call_builtin F.cmp_object.ne.plain F.cmpEntry_ne (PySem.W.check_slot F.cmpKind_ne F.cmpSplit_ne (I.type.andThen (PySem.W.looks_mroIn X hm)) (F.cmpArgs_ne _ _)
      (entry_objNe (A := A.in1) X I (by show A.units + 1 < cLine; exact hu) hs hf (wpAny_mono h (fun v s' hv => ?_) fun _ _ e => e))))))
    obtain ⟨b, rfl, hq⟩ := hv
    exact ⟨b, rfl, wpAny_pure ⟨_, rfl, hq⟩⟩
  unfold richCompare
  simp only [oneThing_ref]
  refine wpAny_holding (wpAny_bind (wpAny_cRoomFor (Nat.lt_of_succ_lt hu) ?_))
  rw [cmpInfo_NotEq]
  dsimp only
  refine wpAny_bind (I.type.here (wpAny_bind (J.type.here ?_)))
  rw [show (Value.ref C != Value.ref C) = false from by simp]
  simp only [Bool.false_eq_true, if_false]
  refine wpAny_bind (wpAny_pure ?_)
  simp only [Bool.false_eq_true, if_false]
  refine wpAny_bind (wpAny_mono one (fun v s' hv => ?_) fun _ _ e => e)
  obtain ⟨b, rfl, hq⟩ := hv
  exact wpAny_pure hq
end
/-- what of the text such a class must have -/
structure OwnQ (K : PySem.W.Frag) (C f : Addr) : Prop where
  eq : PySem.W.findIn K (.ref C) "__eq__" = some (some (.ref f))
  fn : PySem.W.isFn K (.ref f) = true
  ne : PySem.W.findIn K (.ref C) "__ne__" = some (some (.builtin "object.__ne__"))
  mro : PySem.W.mroIn K C (.type "object") = some true
def rOwn (C : Addr) (sp : Sp) (neg : Bool) : R2 := fun x y H Q => ∃ a b dx dy fs gs, x = .ref a ∧ y = .ref b ∧ H a = some (.ins C dx fs) ∧ H b = some (.ins C dy gs) ∧ sp [.ref a, .ref b] H (fun v H' => ∃ r : Bool, v = .bl r ∧ Q (.bl (if neg then !r else r)) H') E0
section
variable {X : Cx} {C f : Addr} {fd : FuncData} {ps : List Str} {sp : Sp} {k : Nat}
theorem op_ownEq (F : FnOk X.prog X.w X.K X.mg X.base CX0 k f fd ps sp) (O : OwnQ X.K C f) (hr : Room (k + 1) X.A) (hb : Binds X.K fd ps []) : OpR X (compareOp .Eq) (rOwn C sp false) := by
  intro pins s σ H x y u v Q I rx ry d
  obtain ⟨a, b, dx, dy, fs, gs, rfl, rfl, ha, hb', hsp⟩ := d
  cases rx
  cases ry
  obtain ⟨mA, J, _⟩ := ins_get I.hok ha
  obtain ⟨mB, J', _⟩ := ins_get I.hok hb'
  obtain ⟨od, J, _⟩ := J.look
  obtain ⟨od', J', _⟩ := J'.look
  obtain ⟨m, hF⟩ := I.fr
  show wpAny (model X.prog X.w) X.A (richCompare .Eq (.ref a) (.ref b)) _ _ _
  refine PySem.W.cmp_K (op := .Eq) (tb := .ref C) hr.units0 hF I.ok.mod.kin J J'.type (by simp [PySem.W.notFirst]) O.eq O.fn ?_
  refine wpAny_mono (run_fn (us := [.ref a, .ref b]) (vs := [.ref a, .ref b]) F (hr.mono (Nat.le_succ k)) hb .nil pass0 I (.cons rfl (.cons rfl .nil)) (by rw [List.append_nil]; exact hsp)) (fun w s' z => ?_) fun _ _ e => e
  obtain ⟨v, H', I', rv, r, ev, q⟩ := z
  subst ev
  cases rv
  exact ⟨.bl r, H', I', rfl, q⟩
theorem op_ownNe (F : FnOk X.prog X.w X.K X.mg X.base CX0 k f fd ps sp) (O : OwnQ X.K C f) (hr : Room (k + 1) X.A) (hb : Binds X.K fd ps []) : OpR X (compareOp .NotEq) (rOwn C sp true) := by
  intro pins s σ H x y u v Q I rx ry d
  obtain ⟨a, b, dx, dy, fs, gs, rfl, rfl, ha, hb', hsp⟩ := d
  cases rx
  cases ry
  obtain ⟨mA, J, _⟩ := ins_get I.hok ha
  obtain ⟨mB, J', _⟩ := ins_get I.hok hb'
  obtain ⟨od, J, _⟩ := J.look
  obtain ⟨od', J', _⟩ := J'.look
  show wpAny (model X.prog X.w) X.A (richCompare .NotEq (.ref a) (.ref b)) _ _ _
  refine ne_K (by have := hr.units; omega) I.kIn J J' O.mro O.ne O.eq O.fn ?_
  have hsp' : sp [.ref a, .ref b] H (fun v H' => ∃ r : Bool, v = .bl r ∧ Q (.bl (!r)) H') E0 := hsp
  have hl : [V.ref a, V.ref b].length = ps.length := F.len _ _ _ _ hsp'
  refine wpAny_call (codeAny_mono (F.run X.A.in1 X.stack s H ⟨[.ref a, .ref b], []⟩ [.ref a, .ref b] [.ref a, .ref b] _ E0 hr.in1 I.env0.in1 (by
    have := hb s [.ref a, .ref b] I.kIn (by simpa using hl)
    simpa using this) (.cons rfl (.cons rfl .nil)) hsp') fun r s' hq => ?_)
  cases r with
  | error e => exact False.elim hq
  | ok fl =>
    cases fl with
    | ret w =>
      obtain ⟨z, H', I', rz, r, ez, q⟩ := I.after hq
      subst ez
      cases rz
      exact ⟨r, rfl, .bl (!r), H', I', rfl, q⟩
    | next => exact False.elim hq
    | brk => exact False.elim hq
    | cont => exact False.elim hq
end
end L2
end
section
namespace K86
open PySem PySem.Spec PyProof.Rows L2 DL
/-! ### the text by places (printed by gen_head.py) -/
def top (i : Nat) : Stmt := PySem.Challenge.pw_wordlaws_k86_whole_duality.main.body.getD i (.Pass ⟨0, 0, 0, 0⟩)
/-- the def behind a property -/
def wfo (K : PySem.W.Frag) (C : Addr) (T : String) (m : PySem.Str) : Addr := match PySem.W.recIn K (He.ma K C m) T with
  | some (.ref f :: _) => f
  | _ => 0
abbrev s__wall : Stmt := top 0
abbrev s_InvalidNumber___init__ : Stmt := inClass (top 6) 0
abbrev s_TooMany___init__ : Stmt := inClass (top 7) 0
abbrev s_is_integer : Stmt := top 11
abbrev s_is_between : Stmt := top 12
abbrev s_is_width : Stmt := top 13
abbrev s_is_size : Stmt := top 14
abbrev s_require_width : Stmt := top 15
abbrev s_require_size : Stmt := top 16
abbrev s_modulus_of : Stmt := top 17
abbrev s_is_word_of : Stmt := top 18
abbrev s_are_words : Stmt := top 19
abbrev s_is_vector_of : Stmt := top 20
abbrev s_require_vector : Stmt := top 21
abbrev s_require_vectors : Stmt := top 22
abbrev s_sum_by : Stmt := top 23
abbrev s_multiple_by : Stmt := top 24
abbrev s_level_of : Stmt := top 25
abbrev s_inverse_of : Stmt := top 26
abbrev s_pivot_column : Stmt := top 28
abbrev s_with_pivot : Stmt := top 29
abbrev s_reduced : Stmt := top 30
abbrev s_Span___init__ : Stmt := inClass (top 31) 0
abbrev s_Span_add : Stmt := inClass (top 31) 1
abbrev s_Span_put : Stmt := inClass (top 31) 2
abbrev s_Span_remainder : Stmt := inClass (top 31) 3
abbrev s_Span_holds : Stmt := inClass (top 31) 4
abbrev s_Span_rows : Stmt := inClass (top 31) 5
abbrev s_basis_by : Stmt := top 32
abbrev s_remainder_by : Stmt := top 33
abbrev s_is_in : Stmt := top 34
abbrev s_is_first_row : Stmt := top 35
abbrev s_is_basis_of : Stmt := top 36
abbrev s_require_basis : Stmt := top 37
abbrev s_require_width_and_size : Stmt := top 38
abbrev s_count_by : Stmt := top 39
abbrev s_basis_of : Stmt := top 40
abbrev s_contains : Stmt := top 41
abbrev s_unit_of : Stmt := top 42
abbrev s_coordinates_by : Stmt := top 43
abbrev s_coordinates : Stmt := top 44
abbrev s_joined_basis : Stmt := top 45
abbrev s_member_count : Stmt := top 46
abbrev s_columns_of : Stmt := top 48
abbrev s_whole_basis : Stmt := top 49
abbrev s_annihilator_by : Stmt := top 50
abbrev s_common_by : Stmt := top 51
abbrev s_solution_by : Stmt := top 52
abbrev s_annihilator : Stmt := top 53
abbrev s_common_basis : Stmt := top 54
abbrev s_solution : Stmt := top 55
abbrev s_with_multiples : Stmt := top 57
abbrev s_Module___init__ : Stmt := inClass (top 58) 1
abbrev s_Module_width : Stmt := inClass (top 58) 2
abbrev s_Module_size : Stmt := inClass (top 58) 3
abbrev s_Module_basis : Stmt := inClass (top 58) 4
abbrev s_Module_zero : Stmt := inClass (top 58) 5
abbrev s_Module_whole : Stmt := inClass (top 58) 6
abbrev s_Module_is_size : Stmt := inClass (top 58) 7
abbrev s_Module_has : Stmt := inClass (top 58) 8
abbrev s_Module_bases_with : Stmt := inClass (top 58) 9
abbrev s_Module_made : Stmt := inClass (top 58) 10
abbrev s_Module_plus : Stmt := inClass (top 58) 11
abbrev s_Module___contains__ : Stmt := inClass (top 58) 12
abbrev s_Module_within : Stmt := inClass (top 58) 13
abbrev s_Module_common : Stmt := inClass (top 58) 14
abbrev s_Module_dual : Stmt := inClass (top 58) 15
abbrev s_Module_members : Stmt := inClass (top 58) 16
abbrev s_Module___len__ : Stmt := inClass (top 58) 17
abbrev s_Module___eq__ : Stmt := inClass (top 58) 18
abbrev s_Module___str__ : Stmt := inClass (top 58) 19
abbrev s__law_stream : Stmt := top 60
abbrev s__law_draw : Stmt := top 61
abbrev s__law_row : Stmt := top 62
abbrev s__law_dot : Stmt := top 63
abbrev s__law_vectors : Stmt := top 64
abbrev s__law_is_zero : Stmt := top 65
abbrev s__law_pairs_right : Stmt := top 66
abbrev s__law_modular_right : Stmt := top 67
abbrev s__law_sum : Stmt := top 68
abbrev s__law_solved_right : Stmt := top 69
abbrev s__law_space : Stmt := top 70
abbrev s__law_spaces_right : Stmt := top 71
abbrev s__law_all : Stmt := top 72
abbrev s__law_force_right : Stmt := top 73
abbrev s_law : Stmt := top 74
def d__wall : He5.DefA := ⟨fun K => He.ga K "_wall", "_wall", "_wall", defArgs s__wall, defBody s__wall, defScope s__wall, [], []⟩
def d_InvalidNumber___init__ : He5.DefA := ⟨fun K => He.ma K (He.ga K "InvalidNumber") "__init__", "__init__", "InvalidNumber.__init__", defArgs s_InvalidNumber___init__, defBody s_InvalidNumber___init__, defScope s_InvalidNumber___init__, [], []⟩
def d_TooMany___init__ : He5.DefA := ⟨fun K => He.ma K (He.ga K "TooMany") "__init__", "__init__", "TooMany.__init__", defArgs s_TooMany___init__, defBody s_TooMany___init__, defScope s_TooMany___init__, [], []⟩
def d_is_integer : He5.DefA := ⟨fun K => He.ga K "is_integer", "is_integer", "is_integer", defArgs s_is_integer, defBody s_is_integer, defScope s_is_integer, [], []⟩
def d_is_between : He5.DefA := ⟨fun K => He.ga K "is_between", "is_between", "is_between", defArgs s_is_between, defBody s_is_between, defScope s_is_between, [], []⟩
def d_is_width : He5.DefA := ⟨fun K => He.ga K "is_width", "is_width", "is_width", defArgs s_is_width, defBody s_is_width, defScope s_is_width, [], []⟩
def d_is_size : He5.DefA := ⟨fun K => He.ga K "is_size", "is_size", "is_size", defArgs s_is_size, defBody s_is_size, defScope s_is_size, [], []⟩
def d_require_width : He5.DefA := ⟨fun K => He.ga K "require_width", "require_width", "require_width", defArgs s_require_width, defBody s_require_width, defScope s_require_width, [], []⟩
def d_require_size : He5.DefA := ⟨fun K => He.ga K "require_size", "require_size", "require_size", defArgs s_require_size, defBody s_require_size, defScope s_require_size, [], []⟩
def d_modulus_of : He5.DefA := ⟨fun K => He.ga K "modulus_of", "modulus_of", "modulus_of", defArgs s_modulus_of, defBody s_modulus_of, defScope s_modulus_of, [], []⟩
def d_is_word_of : He5.DefA := ⟨fun K => He.ga K "is_word_of", "is_word_of", "is_word_of", defArgs s_is_word_of, defBody s_is_word_of, defScope s_is_word_of, [], []⟩
def d_are_words : He5.DefA := ⟨fun K => He.ga K "are_words", "are_words", "are_words", defArgs s_are_words, defBody s_are_words, defScope s_are_words, [], []⟩
def d_is_vector_of : He5.DefA := ⟨fun K => He.ga K "is_vector_of", "is_vector_of", "is_vector_of", defArgs s_is_vector_of, defBody s_is_vector_of, defScope s_is_vector_of, [], []⟩
def d_require_vector : He5.DefA := ⟨fun K => He.ga K "require_vector", "require_vector", "require_vector", defArgs s_require_vector, defBody s_require_vector, defScope s_require_vector, [], []⟩
def d_require_vectors : He5.DefA := ⟨fun K => He.ga K "require_vectors", "require_vectors", "require_vectors", defArgs s_require_vectors, defBody s_require_vectors, defScope s_require_vectors, [], []⟩
def d_sum_by : He5.DefA := ⟨fun K => He.ga K "sum_by", "sum_by", "sum_by", defArgs s_sum_by, defBody s_sum_by, defScope s_sum_by, [], []⟩
def d_multiple_by : He5.DefA := ⟨fun K => He.ga K "multiple_by", "multiple_by", "multiple_by", defArgs s_multiple_by, defBody s_multiple_by, defScope s_multiple_by, [], []⟩
def d_level_of : He5.DefA := ⟨fun K => He.ga K "level_of", "level_of", "level_of", defArgs s_level_of, defBody s_level_of, defScope s_level_of, [], []⟩
def d_inverse_of : He5.DefA := ⟨fun K => He.ga K "inverse_of", "inverse_of", "inverse_of", defArgs s_inverse_of, defBody s_inverse_of, defScope s_inverse_of, [], []⟩
def d_pivot_column : He5.DefA := ⟨fun K => He.ga K "pivot_column", "pivot_column", "pivot_column", defArgs s_pivot_column, defBody s_pivot_column, defScope s_pivot_column, [], []⟩
def d_with_pivot : He5.DefA := ⟨fun K => He.ga K "with_pivot", "with_pivot", "with_pivot", defArgs s_with_pivot, defBody s_with_pivot, defScope s_with_pivot, [], []⟩
def d_reduced : He5.DefA := ⟨fun K => He.ga K "reduced", "reduced", "reduced", defArgs s_reduced, defBody s_reduced, defScope s_reduced, [], []⟩
def d_Span___init__ : He5.DefA := ⟨fun K => He.ma K (He.ga K "Span") "__init__", "__init__", "Span.__init__", defArgs s_Span___init__, defBody s_Span___init__, defScope s_Span___init__, [], []⟩
def d_Span_add : He5.DefA := ⟨fun K => He.ma K (He.ga K "Span") "add", "add", "Span.add", defArgs s_Span_add, defBody s_Span_add, defScope s_Span_add, [], []⟩
def d_Span_put : He5.DefA := ⟨fun K => He.ma K (He.ga K "Span") "put", "put", "Span.put", defArgs s_Span_put, defBody s_Span_put, defScope s_Span_put, [], []⟩
def d_Span_remainder : He5.DefA := ⟨fun K => He.ma K (He.ga K "Span") "remainder", "remainder", "Span.remainder", defArgs s_Span_remainder, defBody s_Span_remainder, defScope s_Span_remainder, [], []⟩
def d_Span_holds : He5.DefA := ⟨fun K => He.ma K (He.ga K "Span") "holds", "holds", "Span.holds", defArgs s_Span_holds, defBody s_Span_holds, defScope s_Span_holds, [], []⟩
def d_Span_rows : He5.DefA := ⟨fun K => He.ma K (He.ga K "Span") "rows", "rows", "Span.rows", defArgs s_Span_rows, defBody s_Span_rows, defScope s_Span_rows, [], []⟩
def d_basis_by : He5.DefA := ⟨fun K => He.ga K "basis_by", "basis_by", "basis_by", defArgs s_basis_by, defBody s_basis_by, defScope s_basis_by, [], []⟩
def d_remainder_by : He5.DefA := ⟨fun K => He.ga K "remainder_by", "remainder_by", "remainder_by", defArgs s_remainder_by, defBody s_remainder_by, defScope s_remainder_by, [], []⟩
def d_is_in : He5.DefA := ⟨fun K => He.ga K "is_in", "is_in", "is_in", defArgs s_is_in, defBody s_is_in, defScope s_is_in, [], []⟩
def d_is_first_row : He5.DefA := ⟨fun K => He.ga K "is_first_row", "is_first_row", "is_first_row", defArgs s_is_first_row, defBody s_is_first_row, defScope s_is_first_row, [], []⟩
def d_is_basis_of : He5.DefA := ⟨fun K => He.ga K "is_basis_of", "is_basis_of", "is_basis_of", defArgs s_is_basis_of, defBody s_is_basis_of, defScope s_is_basis_of, [], []⟩
def d_require_basis : He5.DefA := ⟨fun K => He.ga K "require_basis", "require_basis", "require_basis", defArgs s_require_basis, defBody s_require_basis, defScope s_require_basis, [], []⟩
def d_require_width_and_size : He5.DefA := ⟨fun K => He.ga K "require_width_and_size", "require_width_and_size", "require_width_and_size", defArgs s_require_width_and_size, defBody s_require_width_and_size, defScope s_require_width_and_size, [], []⟩
def d_count_by : He5.DefA := ⟨fun K => He.ga K "count_by", "count_by", "count_by", defArgs s_count_by, defBody s_count_by, defScope s_count_by, [], []⟩
def d_basis_of : He5.DefA := ⟨fun K => He.ga K "basis_of", "basis_of", "basis_of", defArgs s_basis_of, defBody s_basis_of, defScope s_basis_of, [], []⟩
def d_contains : He5.DefA := ⟨fun K => He.ga K "contains", "contains", "contains", defArgs s_contains, defBody s_contains, defScope s_contains, [], []⟩
def d_unit_of : He5.DefA := ⟨fun K => He.ga K "unit_of", "unit_of", "unit_of", defArgs s_unit_of, defBody s_unit_of, defScope s_unit_of, [], []⟩
def d_coordinates_by : He5.DefA := ⟨fun K => He.ga K "coordinates_by", "coordinates_by", "coordinates_by", defArgs s_coordinates_by, defBody s_coordinates_by, defScope s_coordinates_by, [], []⟩
def d_coordinates : He5.DefA := ⟨fun K => He.ga K "coordinates", "coordinates", "coordinates", defArgs s_coordinates, defBody s_coordinates, defScope s_coordinates, [], []⟩
def d_joined_basis : He5.DefA := ⟨fun K => He.ga K "joined_basis", "joined_basis", "joined_basis", defArgs s_joined_basis, defBody s_joined_basis, defScope s_joined_basis, [], []⟩
def d_member_count : He5.DefA := ⟨fun K => He.ga K "member_count", "member_count", "member_count", defArgs s_member_count, defBody s_member_count, defScope s_member_count, [], []⟩
def d_columns_of : He5.DefA := ⟨fun K => He.ga K "columns_of", "columns_of", "columns_of", defArgs s_columns_of, defBody s_columns_of, defScope s_columns_of, [], []⟩
def d_whole_basis : He5.DefA := ⟨fun K => He.ga K "whole_basis", "whole_basis", "whole_basis", defArgs s_whole_basis, defBody s_whole_basis, defScope s_whole_basis, [], []⟩
def d_annihilator_by : He5.DefA := ⟨fun K => He.ga K "annihilator_by", "annihilator_by", "annihilator_by", defArgs s_annihilator_by, defBody s_annihilator_by, defScope s_annihilator_by, [], []⟩
def d_common_by : He5.DefA := ⟨fun K => He.ga K "common_by", "common_by", "common_by", defArgs s_common_by, defBody s_common_by, defScope s_common_by, [], []⟩
def d_solution_by : He5.DefA := ⟨fun K => He.ga K "solution_by", "solution_by", "solution_by", defArgs s_solution_by, defBody s_solution_by, defScope s_solution_by, [], []⟩
def d_annihilator : He5.DefA := ⟨fun K => He.ga K "annihilator", "annihilator", "annihilator", defArgs s_annihilator, defBody s_annihilator, defScope s_annihilator, [], []⟩
def d_common_basis : He5.DefA := ⟨fun K => He.ga K "common_basis", "common_basis", "common_basis", defArgs s_common_basis, defBody s_common_basis, defScope s_common_basis, [], []⟩
def d_solution : He5.DefA := ⟨fun K => He.ga K "solution", "solution", "solution", defArgs s_solution, defBody s_solution, defScope s_solution, [], []⟩
def d_with_multiples : He5.DefA := ⟨fun K => He.ga K "with_multiples", "with_multiples", "with_multiples", defArgs s_with_multiples, defBody s_with_multiples, defScope s_with_multiples, [], []⟩
def d_Module___init__ : He5.DefA := ⟨fun K => He.ma K (He.ga K "Module") "__init__", "__init__", "Module.__init__", defArgs s_Module___init__, defBody s_Module___init__, defScope s_Module___init__, [], []⟩
def d_Module_width : He5.DefA := ⟨fun K => wfo K (He.ga K "Module") "property" "width", "width", "Module.width", defArgs s_Module_width, defBody s_Module_width, defScope s_Module_width, [], []⟩
def d_Module_size : He5.DefA := ⟨fun K => wfo K (He.ga K "Module") "property" "size", "size", "Module.size", defArgs s_Module_size, defBody s_Module_size, defScope s_Module_size, [], []⟩
def d_Module_basis : He5.DefA := ⟨fun K => wfo K (He.ga K "Module") "property" "basis", "basis", "Module.basis", defArgs s_Module_basis, defBody s_Module_basis, defScope s_Module_basis, [], []⟩
def d_Module_zero : He5.DefA := ⟨fun K => He5.wf K (He.ga K "Module") "classmethod" "zero", "zero", "Module.zero", defArgs s_Module_zero, defBody s_Module_zero, defScope s_Module_zero, [], []⟩
def d_Module_whole : He5.DefA := ⟨fun K => He5.wf K (He.ga K "Module") "classmethod" "whole", "whole", "Module.whole", defArgs s_Module_whole, defBody s_Module_whole, defScope s_Module_whole, [], []⟩
def d_Module_is_size : He5.DefA := ⟨fun K => He5.wf K (He.ga K "Module") "staticmethod" "is_size", "is_size", "Module.is_size", defArgs s_Module_is_size, defBody s_Module_is_size, defScope s_Module_is_size, [], []⟩
def d_Module_has : He5.DefA := ⟨fun K => He.ma K (He.ga K "Module") "has", "has", "Module.has", defArgs s_Module_has, defBody s_Module_has, defScope s_Module_has, [], []⟩
def d_Module_bases_with : He5.DefA := ⟨fun K => He.ma K (He.ga K "Module") "bases_with", "bases_with", "Module.bases_with", defArgs s_Module_bases_with, defBody s_Module_bases_with, defScope s_Module_bases_with, [], []⟩
def d_Module_made : He5.DefA := ⟨fun K => He.ma K (He.ga K "Module") "made", "made", "Module.made", defArgs s_Module_made, defBody s_Module_made, defScope s_Module_made, [], []⟩
def d_Module_plus : He5.DefA := ⟨fun K => He.ma K (He.ga K "Module") "plus", "plus", "Module.plus", defArgs s_Module_plus, defBody s_Module_plus, defScope s_Module_plus, [], []⟩
def d_Module___contains__ : He5.DefA := ⟨fun K => He.ma K (He.ga K "Module") "__contains__", "__contains__", "Module.__contains__", defArgs s_Module___contains__, defBody s_Module___contains__, defScope s_Module___contains__, [], []⟩
def d_Module_within : He5.DefA := ⟨fun K => He.ma K (He.ga K "Module") "within", "within", "Module.within", defArgs s_Module_within, defBody s_Module_within, defScope s_Module_within, [], []⟩
def d_Module_common : He5.DefA := ⟨fun K => He.ma K (He.ga K "Module") "common", "common", "Module.common", defArgs s_Module_common, defBody s_Module_common, defScope s_Module_common, [], []⟩
def d_Module_dual : He5.DefA := ⟨fun K => He.ma K (He.ga K "Module") "dual", "dual", "Module.dual", defArgs s_Module_dual, defBody s_Module_dual, defScope s_Module_dual, [], []⟩
def d_Module_members : He5.DefA := ⟨fun K => He.ma K (He.ga K "Module") "members", "members", "Module.members", defArgs s_Module_members, defBody s_Module_members, defScope s_Module_members, [], []⟩
def d_Module___len__ : He5.DefA := ⟨fun K => He.ma K (He.ga K "Module") "__len__", "__len__", "Module.__len__", defArgs s_Module___len__, defBody s_Module___len__, defScope s_Module___len__, [], []⟩
def d_Module___eq__ : He5.DefA := ⟨fun K => He.ma K (He.ga K "Module") "__eq__", "__eq__", "Module.__eq__", defArgs s_Module___eq__, defBody s_Module___eq__, defScope s_Module___eq__, [], []⟩
def d_Module___str__ : He5.DefA := ⟨fun K => He.ma K (He.ga K "Module") "__str__", "__str__", "Module.__str__", defArgs s_Module___str__, defBody s_Module___str__, defScope s_Module___str__, [], []⟩
def d__law_stream : He5.DefA := ⟨fun K => He.ga K "_law_stream", "_law_stream", "_law_stream", defArgs s__law_stream, defBody s__law_stream, defScope s__law_stream, [], []⟩
def d__law_draw : He5.DefA := ⟨fun K => He.ga K "_law_draw", "_law_draw", "_law_draw", defArgs s__law_draw, defBody s__law_draw, defScope s__law_draw, [], []⟩
def d__law_row : He5.DefA := ⟨fun K => He.ga K "_law_row", "_law_row", "_law_row", defArgs s__law_row, defBody s__law_row, defScope s__law_row, [], []⟩
def d__law_dot : He5.DefA := ⟨fun K => He.ga K "_law_dot", "_law_dot", "_law_dot", defArgs s__law_dot, defBody s__law_dot, defScope s__law_dot, [], []⟩
def d__law_vectors : He5.DefA := ⟨fun K => He.ga K "_law_vectors", "_law_vectors", "_law_vectors", defArgs s__law_vectors, defBody s__law_vectors, defScope s__law_vectors, [], []⟩
def d__law_is_zero : He5.DefA := ⟨fun K => He.ga K "_law_is_zero", "_law_is_zero", "_law_is_zero", defArgs s__law_is_zero, defBody s__law_is_zero, defScope s__law_is_zero, [], []⟩
def d__law_pairs_right : He5.DefA := ⟨fun K => He.ga K "_law_pairs_right", "_law_pairs_right", "_law_pairs_right", defArgs s__law_pairs_right, defBody s__law_pairs_right, defScope s__law_pairs_right, [], []⟩
def d__law_modular_right : He5.DefA := ⟨fun K => He.ga K "_law_modular_right", "_law_modular_right", "_law_modular_right", defArgs s__law_modular_right, defBody s__law_modular_right, defScope s__law_modular_right, [], []⟩
def d__law_sum : He5.DefA := ⟨fun K => He.ga K "_law_sum", "_law_sum", "_law_sum", defArgs s__law_sum, defBody s__law_sum, defScope s__law_sum, [], []⟩
def d__law_solved_right : He5.DefA := ⟨fun K => He.ga K "_law_solved_right", "_law_solved_right", "_law_solved_right", defArgs s__law_solved_right, defBody s__law_solved_right, defScope s__law_solved_right, [], []⟩
def d__law_space : He5.DefA := ⟨fun K => He.ga K "_law_space", "_law_space", "_law_space", defArgs s__law_space, defBody s__law_space, defScope s__law_space, [], []⟩
def d__law_spaces_right : He5.DefA := ⟨fun K => He.ga K "_law_spaces_right", "_law_spaces_right", "_law_spaces_right", defArgs s__law_spaces_right, defBody s__law_spaces_right, defScope s__law_spaces_right, [], []⟩
def d__law_all : He5.DefA := ⟨fun K => He.ga K "_law_all", "_law_all", "_law_all", defArgs s__law_all, defBody s__law_all, defScope s__law_all, [], []⟩
def d__law_force_right : He5.DefA := ⟨fun K => He.ga K "_law_force_right", "_law_force_right", "_law_force_right", defArgs s__law_force_right, defBody s__law_force_right, defScope s__law_force_right, [], []⟩
def d_law : He5.DefA := ⟨fun K => He.ga K "law", "law", "law", defArgs s_law, defBody s_law, defScope s_law, [], []⟩
def fn : List He5.DefA := [d__wall, d_InvalidNumber___init__, d_TooMany___init__, d_is_integer, d_is_between, d_is_width, d_is_size, d_require_width, d_require_size, d_modulus_of, d_is_word_of, d_are_words, d_is_vector_of, d_require_vector, d_require_vectors, d_sum_by, d_multiple_by, d_level_of, d_inverse_of, d_pivot_column, d_with_pivot, d_reduced, d_Span___init__, d_Span_add, d_Span_put, d_Span_remainder, d_Span_holds, d_Span_rows, d_basis_by, d_remainder_by, d_is_in, d_is_first_row, d_is_basis_of, d_require_basis, d_require_width_and_size, d_count_by, d_basis_of, d_contains, d_unit_of, d_coordinates_by, d_coordinates, d_joined_basis, d_member_count, d_columns_of, d_whole_basis, d_annihilator_by, d_common_by, d_solution_by, d_annihilator, d_common_basis, d_solution, d_with_multiples, d_Module___init__, d_Module_width, d_Module_size, d_Module_basis, d_Module_zero, d_Module_whole, d_Module_is_size, d_Module_has, d_Module_bases_with, d_Module_made, d_Module_plus, d_Module___contains__, d_Module_within, d_Module_common, d_Module_dual, d_Module_members, d_Module___len__, d_Module___eq__, d_Module___str__, d__law_stream, d__law_draw, d__law_row, d__law_dot, d__law_vectors, d__law_is_zero, d__law_pairs_right, d__law_modular_right, d__law_sum, d__law_solved_right, d__law_space, d__law_spaces_right, d__law_all, d__law_force_right, d_law]
def loose : List PySem.Str := [PySem.Str.ofString "_wall", PySem.Str.ofString "WordsError", PySem.Str.ofString "InvalidWidth", PySem.Str.ofString "InvalidVector", PySem.Str.ofString "InvalidBasis", PySem.Str.ofString "InvalidNumber", PySem.Str.ofString "TooMany", PySem.Str.ofString "MAX_WIDTH", PySem.Str.ofString "MAX_SIZE", PySem.Str.ofString "is_integer", PySem.Str.ofString "is_between", PySem.Str.ofString "is_width", PySem.Str.ofString "is_size", PySem.Str.ofString "require_width", PySem.Str.ofString "require_size", PySem.Str.ofString "modulus_of", PySem.Str.ofString "is_word_of", PySem.Str.ofString "are_words", PySem.Str.ofString "is_vector_of", PySem.Str.ofString "require_vector", PySem.Str.ofString "require_vectors", PySem.Str.ofString "sum_by", PySem.Str.ofString "multiple_by", PySem.Str.ofString "level_of", PySem.Str.ofString "inverse_of", PySem.Str.ofString "pivot_column", PySem.Str.ofString "with_pivot", PySem.Str.ofString "reduced", PySem.Str.ofString "Span", PySem.Str.ofString "basis_by"] ++ [PySem.Str.ofString "remainder_by", PySem.Str.ofString "is_in", PySem.Str.ofString "is_first_row", PySem.Str.ofString "is_basis_of", PySem.Str.ofString "require_basis", PySem.Str.ofString "require_width_and_size", PySem.Str.ofString "count_by", PySem.Str.ofString "basis_of", PySem.Str.ofString "contains", PySem.Str.ofString "unit_of", PySem.Str.ofString "coordinates_by", PySem.Str.ofString "coordinates", PySem.Str.ofString "joined_basis", PySem.Str.ofString "member_count", PySem.Str.ofString "columns_of", PySem.Str.ofString "whole_basis", PySem.Str.ofString "annihilator_by", PySem.Str.ofString "common_by", PySem.Str.ofString "solution_by", PySem.Str.ofString "annihilator", PySem.Str.ofString "common_basis", PySem.Str.ofString "solution", PySem.Str.ofString "with_multiples", PySem.Str.ofString "Module", PySem.Str.ofString "_law_stream", PySem.Str.ofString "_law_draw", PySem.Str.ofString "_law_row", PySem.Str.ofString "_law_dot", PySem.Str.ofString "_law_vectors", PySem.Str.ofString "_law_is_zero"] ++ [PySem.Str.ofString "_law_pairs_right", PySem.Str.ofString "_law_modular_right", PySem.Str.ofString "_law_sum", PySem.Str.ofString "_law_solved_right", PySem.Str.ofString "_law_space", PySem.Str.ofString "_law_spaces_right", PySem.Str.ofString "_law_all", PySem.Str.ofString "_law_force_right"]
abbrev lawAt : Nat := 74
abbrev i__wall : Nat := 0
abbrev i_InvalidNumber___init__ : Nat := 1
abbrev i_TooMany___init__ : Nat := 2
abbrev i_is_integer : Nat := 3
abbrev i_is_between : Nat := 4
abbrev i_is_width : Nat := 5
abbrev i_is_size : Nat := 6
abbrev i_require_width : Nat := 7
abbrev i_require_size : Nat := 8
abbrev i_modulus_of : Nat := 9
abbrev i_is_word_of : Nat := 10
abbrev i_are_words : Nat := 11
abbrev i_is_vector_of : Nat := 12
abbrev i_require_vector : Nat := 13
abbrev i_require_vectors : Nat := 14
abbrev i_sum_by : Nat := 15
abbrev i_multiple_by : Nat := 16
abbrev i_level_of : Nat := 17
abbrev i_inverse_of : Nat := 18
abbrev i_pivot_column : Nat := 19
abbrev i_with_pivot : Nat := 20
abbrev i_reduced : Nat := 21
abbrev i_Span___init__ : Nat := 22
abbrev i_Span_add : Nat := 23
abbrev i_Span_put : Nat := 24
abbrev i_Span_remainder : Nat := 25
abbrev i_Span_holds : Nat := 26
abbrev i_Span_rows : Nat := 27
abbrev i_basis_by : Nat := 28
abbrev i_remainder_by : Nat := 29
abbrev i_is_in : Nat := 30
abbrev i_is_first_row : Nat := 31
abbrev i_is_basis_of : Nat := 32
abbrev i_require_basis : Nat := 33
abbrev i_require_width_and_size : Nat := 34
abbrev i_count_by : Nat := 35
abbrev i_basis_of : Nat := 36
abbrev i_contains : Nat := 37
abbrev i_unit_of : Nat := 38
abbrev i_coordinates_by : Nat := 39
abbrev i_coordinates : Nat := 40
abbrev i_joined_basis : Nat := 41
abbrev i_member_count : Nat := 42
abbrev i_columns_of : Nat := 43
abbrev i_whole_basis : Nat := 44
abbrev i_annihilator_by : Nat := 45
abbrev i_common_by : Nat := 46
abbrev i_solution_by : Nat := 47
abbrev i_annihilator : Nat := 48
abbrev i_common_basis : Nat := 49
abbrev i_solution : Nat := 50
abbrev i_with_multiples : Nat := 51
abbrev i_Module___init__ : Nat := 52
abbrev i_Module_width : Nat := 53
abbrev i_Module_size : Nat := 54
abbrev i_Module_basis : Nat := 55
abbrev i_Module_zero : Nat := 56
abbrev i_Module_whole : Nat := 57
abbrev i_Module_is_size : Nat := 58
abbrev i_Module_has : Nat := 59
abbrev i_Module_bases_with : Nat := 60
abbrev i_Module_made : Nat := 61
abbrev i_Module_plus : Nat := 62
abbrev i_Module___contains__ : Nat := 63
abbrev i_Module_within : Nat := 64
abbrev i_Module_common : Nat := 65
abbrev i_Module_dual : Nat := 66
abbrev i_Module_members : Nat := 67
abbrev i_Module___len__ : Nat := 68
abbrev i_Module___eq__ : Nat := 69
abbrev i_Module___str__ : Nat := 70
abbrev i__law_stream : Nat := 71
abbrev i__law_draw : Nat := 72
abbrev i__law_row : Nat := 73
abbrev i__law_dot : Nat := 74
abbrev i__law_vectors : Nat := 75
abbrev i__law_is_zero : Nat := 76
abbrev i__law_pairs_right : Nat := 77
abbrev i__law_modular_right : Nat := 78
abbrev i__law_sum : Nat := 79
abbrev i__law_solved_right : Nat := 80
abbrev i__law_space : Nat := 81
abbrev i__law_spaces_right : Nat := 82
abbrev i__law_all : Nat := 83
abbrev i__law_force_right : Nat := 84
abbrev i_law : Nat := 85
def globs0 : List PySem.Str := [PySem.Str.ofString "_wall", PySem.Str.ofString "WordsError", PySem.Str.ofString "InvalidWidth", PySem.Str.ofString "InvalidVector", PySem.Str.ofString "InvalidBasis", PySem.Str.ofString "InvalidNumber", PySem.Str.ofString "TooMany", PySem.Str.ofString "is_integer", PySem.Str.ofString "is_between", PySem.Str.ofString "is_width", PySem.Str.ofString "is_size", PySem.Str.ofString "require_width", PySem.Str.ofString "require_size", PySem.Str.ofString "modulus_of", PySem.Str.ofString "is_word_of", PySem.Str.ofString "are_words", PySem.Str.ofString "is_vector_of", PySem.Str.ofString "require_vector", PySem.Str.ofString "require_vectors", PySem.Str.ofString "sum_by", PySem.Str.ofString "multiple_by", PySem.Str.ofString "level_of", PySem.Str.ofString "inverse_of", PySem.Str.ofString "pivot_column", PySem.Str.ofString "with_pivot", PySem.Str.ofString "reduced", PySem.Str.ofString "Span", PySem.Str.ofString "basis_by", PySem.Str.ofString "remainder_by", PySem.Str.ofString "is_in"]
def globs1 : List PySem.Str := [PySem.Str.ofString "is_first_row", PySem.Str.ofString "is_basis_of", PySem.Str.ofString "require_basis", PySem.Str.ofString "require_width_and_size", PySem.Str.ofString "count_by", PySem.Str.ofString "basis_of", PySem.Str.ofString "contains", PySem.Str.ofString "unit_of", PySem.Str.ofString "coordinates_by", PySem.Str.ofString "coordinates", PySem.Str.ofString "joined_basis", PySem.Str.ofString "member_count", PySem.Str.ofString "columns_of", PySem.Str.ofString "whole_basis", PySem.Str.ofString "annihilator_by", PySem.Str.ofString "common_by", PySem.Str.ofString "solution_by", PySem.Str.ofString "annihilator", PySem.Str.ofString "common_basis", PySem.Str.ofString "solution", PySem.Str.ofString "with_multiples", PySem.Str.ofString "Module", PySem.Str.ofString "_law_stream", PySem.Str.ofString "_law_draw", PySem.Str.ofString "_law_row", PySem.Str.ofString "_law_dot", PySem.Str.ofString "_law_vectors", PySem.Str.ofString "_law_is_zero", PySem.Str.ofString "_law_pairs_right", PySem.Str.ofString "_law_modular_right"]
def globs2 : List PySem.Str := [PySem.Str.ofString "_law_sum", PySem.Str.ofString "_law_solved_right", PySem.Str.ofString "_law_space", PySem.Str.ofString "_law_spaces_right", PySem.Str.ofString "_law_all", PySem.Str.ofString "_law_force_right", PySem.Str.ofString "law"]
def globs : List PySem.Str := globs0 ++ globs1 ++ globs2
abbrev j__wall : Nat := 0
abbrev j_WordsError : Nat := 1
abbrev j_InvalidWidth : Nat := 2
abbrev j_InvalidVector : Nat := 3
abbrev j_InvalidBasis : Nat := 4
abbrev j_InvalidNumber : Nat := 5
abbrev j_TooMany : Nat := 6
abbrev j_is_integer : Nat := 7
abbrev j_is_between : Nat := 8
abbrev j_is_width : Nat := 9
abbrev j_is_size : Nat := 10
abbrev j_require_width : Nat := 11
abbrev j_require_size : Nat := 12
abbrev j_modulus_of : Nat := 13
abbrev j_is_word_of : Nat := 14
abbrev j_are_words : Nat := 15
abbrev j_is_vector_of : Nat := 16
abbrev j_require_vector : Nat := 17
abbrev j_require_vectors : Nat := 18
abbrev j_sum_by : Nat := 19
abbrev j_multiple_by : Nat := 20
abbrev j_level_of : Nat := 21
abbrev j_inverse_of : Nat := 22
abbrev j_pivot_column : Nat := 23
abbrev j_with_pivot : Nat := 24
abbrev j_reduced : Nat := 25
abbrev j_Span : Nat := 26
abbrev j_basis_by : Nat := 27
abbrev j_remainder_by : Nat := 28
abbrev j_is_in : Nat := 29
abbrev j_is_first_row : Nat := 30
abbrev j_is_basis_of : Nat := 31
abbrev j_require_basis : Nat := 32
abbrev j_require_width_and_size : Nat := 33
abbrev j_count_by : Nat := 34
abbrev j_basis_of : Nat := 35
abbrev j_contains : Nat := 36
abbrev j_unit_of : Nat := 37
abbrev j_coordinates_by : Nat := 38
abbrev j_coordinates : Nat := 39
abbrev j_joined_basis : Nat := 40
abbrev j_member_count : Nat := 41
abbrev j_columns_of : Nat := 42
abbrev j_whole_basis : Nat := 43
abbrev j_annihilator_by : Nat := 44
abbrev j_common_by : Nat := 45
abbrev j_solution_by : Nat := 46
abbrev j_annihilator : Nat := 47
abbrev j_common_basis : Nat := 48
abbrev j_solution : Nat := 49
abbrev j_with_multiples : Nat := 50
abbrev j_Module : Nat := 51
abbrev j__law_stream : Nat := 52
abbrev j__law_draw : Nat := 53
abbrev j__law_row : Nat := 54
abbrev j__law_dot : Nat := 55
abbrev j__law_vectors : Nat := 56
abbrev j__law_is_zero : Nat := 57
abbrev j__law_pairs_right : Nat := 58
abbrev j__law_modular_right : Nat := 59
abbrev j__law_sum : Nat := 60
abbrev j__law_solved_right : Nat := 61
abbrev j__law_space : Nat := 62
abbrev j__law_spaces_right : Nat := 63
abbrev j__law_all : Nat := 64
abbrev j__law_force_right : Nat := 65
abbrev j_law : Nat := 66
/-- what is asked of the classes -/
def fa : List He.Fa := [.cls "Span", .noat "Span" "wide", .noat "Span" "many", .noat "Span" "kept", .meth "Span" "add", .meth "Span" "put", .meth "Span" "remainder", .meth "Span" "rows", .mkr "Span",
  .cls "Module", .noat "Module" "own_width", .noat "Module" "own_size", .noat "Module" "own_rows", .mkr "Module", .meth "Module" "bases_with", .meth "Module" "made", .meth "Module" "plus", .meth "Module" "common", .meth "Module" "dual",
  .meth "Module" "members", .meth "Module" "__eq__"]
abbrev mC (K : PySem.W.Frag) : Addr := He.ga K "Module"
def mFacts (K : PySem.W.Frag) : List Bool := [
  He.eqO (PySem.W.findIn K (.ref (mC K)) "basis") (some (some (.ref (He.ma K (mC K) "basis")))),
  He.eqO (PySem.W.specialIn K (.ref (He.ma K (mC K) "basis")) "__get__") (some (some (.builtin "property.__get__"))),
  decide (PySem.W.takesIn K (.ref (He.ma K (mC K) "basis")) = some true),
  (match PySem.W.recIn K (He.ma K (mC K) "basis") "property" with
    | some (.ref _ :: _) => true
    | _ => false),
  He5.wrapB K (mC K) "classmethod" "classmethod.__get__" "zero",
  PySem.W.fnIn K (He5.wf K (mC K) "classmethod" "zero"),
  He5.wrapB K (mC K) "classmethod" "classmethod.__get__" "whole",
  PySem.W.fnIn K (He5.wf K (mC K) "classmethod" "whole"),
  PySem.W.readsIn K (mC K) (.type "type"),
  He.eqO (PySem.W.specialIn K (.ref (mC K)) "__getattribute__") (some (some (.builtin "type.__getattribute__"))),
  (match PySem.W.findIn K (.ref (mC K)) "MOST" with
    | some (some (.int i t)) => decide (i = 4096) && He.eqO (PySem.W.specialIn K (.int i t) "__get__") (some none)
    | _ => false),
  He.eqO (PySem.W.findIn K (.ref (mC K)) "__class__") (some (some (.builtin "object.__class__"))),
  He.eqO (PySem.W.specialIn K (.builtin "object.__class__") "__get__") (some (some (.builtin "getset_descriptor.__get__"))),
  decide (PySem.W.takesIn K (.builtin "object.__class__") = some true),
  decide (PySem.W.mroIn K (mC K) (.type "object") = some true),
  He.eqO (PySem.W.findIn K (.ref (mC K)) "__ne__") (some (some (.builtin "object.__ne__"))),
  decide (PySem.W.kitOne K (.ref (mC K)) (.ref (mC K)) = some true)]
def ex (K : PySem.W.Frag) : Bool := (fa.all fun f => f.ok K) && (mFacts K).all id
/-- what the top has left -/
structure Top (K : PySem.W.Frag) (mg : Str → Option Value) : Prop where
  def_ : ∀ (i : Nat) {d : He5.DefA}, fn[i]? = some d → ∃ fd, FunD K d.name d.qual d.params d.body d.scope (d.dvs K) (d.kws K) (d.at_ K) fd
  glo : ∀ (i : Nat) {x : Str}, globs[i]? = some x → mg x = some (.ref (He.ga K x))
  f_isinstance : mg "isinstance" = none
  f_all : mg "all" = none
  f_any : mg "any" = none
  f_tuple : mg "tuple" = none
  f_zip : mg "zip" = none
  f_sum : mg "sum" = none
  f_range : mg "range" = none
  f_sorted : mg "sorted" = none
  f_len : mg "len" = none
  f_int : mg "int" = none
  f_enumerate : mg "enumerate" = none
  f_list : mg "list" = none
  f_max : mg "max" = none
  f_min : mg "min" = none
  f_abs : mg "abs" = none
  f_bool : mg "bool" = none
  c_MAX_WIDTH : ∃ t, mg "MAX_WIDTH" = some (.int 16 t)
  c_MAX_SIZE : ∃ t, mg "MAX_SIZE" = some (.int 40 t)
  more : ex K = true
end K86
end
section
namespace K86
open PySem PySem.Spec PyProof.Rows L2 DL
section
variable {P : Program} {w : World} {K : PySem.W.Frag} {mg : Str → Option Value} {base : Heap}
/-! ### words -/
abbrev R_is_integer : RelF := fun ds P => ∃ i : Int, ds = [.int i] ∧ P = (· = .bool true)
theorem cal_is_integer (T : Top K mg) : Cal P w K mg base 1 "is_integer" (spR K R_is_integer) := by
  obtain ⟨fd, F⟩ := T.def_ i_is_integer rfl
  have sc : FnScope ["value"] ["value"] (defScope s_is_integer) := ⟨rfl, rfl, rfl, by decide +kernel, rfl, by decide +kernel, by decide +kernel⟩
  have scN := sc.nd
  refine calR (k := 0) F (T.glo j_is_integer rfl) sc (fun _ _ _ _ _ _ us hl => match us, hl with | [_], _ => rfl) (fun ds P' h => ?_) (fun cd A outer s H E ds P' hr h => ?_)
  · obtain ⟨i, rfl, _⟩ := h
    rfl
  · obtain ⟨i, rfl, rfl⟩ := h
    exact bd_ret (ed_andV (ed_isi (T := "int") T.f_isinstance T.f_int (by decide +kernel) (ed_var 0 rfl) kit_int_int) fun hb => (ed_oneV (ed_notV (ed_isi (T := "bool") T.f_isinstance T.f_bool (by decide +kernel) (ed_var 0 rfl) kit_int_bool)))) rfl
abbrev R_is_between : RelF := fun ds P => ∃ i lo hi : Int, ds = [.int i, .int lo, .int hi] ∧ P = (· = .bool (decide (lo ≤ i) && decide (i ≤ hi)))
theorem cal_is_between (T : Top K mg) : Cal P w K mg base 2 "is_between" (spR K R_is_between) := by
  obtain ⟨fd, F⟩ := T.def_ i_is_between rfl
  have sc : FnScope ["value", "low", "high"] ["value", "low", "high"] (defScope s_is_between) := ⟨rfl, rfl, rfl, by decide +kernel, rfl, by decide +kernel, by decide +kernel⟩
  have scN := sc.nd
  refine calR (k := 1) F (T.glo j_is_between rfl) sc (fun _ _ _ _ _ _ us hl => match us, hl with | [_, _, _], _ => rfl) (fun ds P' h => ?_) (fun cd A outer s H E ds P' hr h => ?_)
  · obtain ⟨i, lo, hi, rfl, _⟩ := h
    rfl
  · obtain ⟨i, lo, hi, rfl, rfl⟩ := h
    refine bd_ret (ed_andV (ed_call (cal_is_integer T) hr (by decide) (ea_cons (ed_var 0 rfl) ea_nil) ⟨_, rfl, rfl⟩) fun hb => (ed_oneV (ed_lele (ed_var 1 rfl) (ed_var 0 rfl) (ed_var 2 rfl)))) ?_
    simp
abbrev R_is_width : RelF := fun ds P => ∃ i : Int, ds = [.int i] ∧ P = (· = .bool (decide (1 ≤ i) && decide (i ≤ 16)))
theorem cal_is_width (T : Top K mg) : Cal P w K mg base 3 "is_width" (spR K R_is_width) := by
  obtain ⟨fd, F⟩ := T.def_ i_is_width rfl
  have sc : FnScope ["value"] ["value"] (defScope s_is_width) := ⟨rfl, rfl, rfl, by decide +kernel, rfl, by decide +kernel, by decide +kernel⟩
  have scN := sc.nd
  refine calR (k := 2) F (T.glo j_is_width rfl) sc (fun _ _ _ _ _ _ us hl => match us, hl with | [_], _ => rfl) (fun ds P' h => ?_) (fun cd A outer s H E ds P' hr h => ?_)
  · obtain ⟨i, rfl, _⟩ := h
    rfl
  · obtain ⟨i, rfl, rfl⟩ := h
    exact bd_ret (ed_call (cal_is_between T) hr (by decide) (ea_cons (ed_var 0 rfl) (ea_cons ed_int (ea_cons (ed_globI T.c_MAX_WIDTH) ea_nil))) ⟨_, _, _, rfl, rfl⟩) rfl
abbrev R_is_size : RelF := fun ds P => ∃ i : Int, ds = [.int i] ∧ P = (· = .bool (decide (1 ≤ i) && decide (i ≤ 40)))
theorem cal_is_size (T : Top K mg) : Cal P w K mg base 3 "is_size" (spR K R_is_size) := by
  obtain ⟨fd, F⟩ := T.def_ i_is_size rfl
  have sc : FnScope ["value"] ["value"] (defScope s_is_size) := ⟨rfl, rfl, rfl, by decide +kernel, rfl, by decide +kernel, by decide +kernel⟩
  have scN := sc.nd
  refine calR (k := 2) F (T.glo j_is_size rfl) sc (fun _ _ _ _ _ _ us hl => match us, hl with | [_], _ => rfl) (fun ds P' h => ?_) (fun cd A outer s H E ds P' hr h => ?_)
  · obtain ⟨i, rfl, _⟩ := h
    rfl
  · obtain ⟨i, rfl, rfl⟩ := h
    exact bd_ret (ed_call (cal_is_between T) hr (by decide) (ea_cons (ed_var 0 rfl) (ea_cons ed_int (ea_cons (ed_globI T.c_MAX_SIZE) ea_nil))) ⟨_, _, _, rfl, rfl⟩) rfl
abbrev R_require_width : RelF := fun ds P => ∃ i : Int, ds = [.int i] ∧ (1 ≤ i ∧ i ≤ 16) ∧ P = (· = .none)
theorem cal_require_width (T : Top K mg) : Cal P w K mg base 4 "require_width" (spR K R_require_width) := by
  obtain ⟨fd, F⟩ := T.def_ i_require_width rfl
  have sc : FnScope ["width"] ["width"] (defScope s_require_width) := ⟨rfl, rfl, rfl, by decide +kernel, rfl, by decide +kernel, by decide +kernel⟩
  have scN := sc.nd
  refine calR (k := 3) F (T.glo j_require_width rfl) sc (fun _ _ _ _ _ _ us hl => match us, hl with | [_], _ => rfl) (fun ds P' h => ?_) (fun cd A outer s H E ds P' hr h => ?_)
  · obtain ⟨i, rfl, _⟩ := h
    rfl
  · obtain ⟨i, rfl, ⟨h1, h2⟩, rfl⟩ := h
    exact bd_skip (td_not (td_val (ed_call (cal_is_width T) hr (by decide) (ea_cons (ed_var 0 rfl) ea_nil) ⟨_, rfl, rfl⟩))) (by simp [h1, h2]) (bd_nil rfl)
abbrev R_require_size : RelF := fun ds P => ∃ i : Int, ds = [.int i] ∧ (1 ≤ i ∧ i ≤ 40) ∧ P = (· = .none)
theorem cal_require_size (T : Top K mg) : Cal P w K mg base 4 "require_size" (spR K R_require_size) := by
  obtain ⟨fd, F⟩ := T.def_ i_require_size rfl
  have sc : FnScope ["size"] ["size"] (defScope s_require_size) := ⟨rfl, rfl, rfl, by decide +kernel, rfl, by decide +kernel, by decide +kernel⟩
  have scN := sc.nd
  refine calR (k := 3) F (T.glo j_require_size rfl) sc (fun _ _ _ _ _ _ us hl => match us, hl with | [_], _ => rfl) (fun ds P' h => ?_) (fun cd A outer s H E ds P' hr h => ?_)
  · obtain ⟨i, rfl, _⟩ := h
    rfl
  · obtain ⟨i, rfl, ⟨h1, h2⟩, rfl⟩ := h
    exact bd_skip (td_not (td_val (ed_call (cal_is_size T) hr (by decide) (ea_cons (ed_var 0 rfl) ea_nil) ⟨_, rfl, rfl⟩))) (by simp [h1, h2]) (bd_nil rfl)
abbrev R_modulus_of : RelF := fun ds P => ∃ n : Nat, ds = [.int (n : Int)] ∧ n ≤ 100000 ∧ P = (· = .int (2 ^ n))
theorem cal_modulus_of (T : Top K mg) : Cal P w K mg base 1 "modulus_of" (spR K R_modulus_of) := by
  obtain ⟨fd, F⟩ := T.def_ i_modulus_of rfl
  have sc : FnScope ["width"] ["width"] (defScope s_modulus_of) := ⟨rfl, rfl, rfl, by decide +kernel, rfl, by decide +kernel, by decide +kernel⟩
  have scN := sc.nd
  refine calR (k := 0) F (T.glo j_modulus_of rfl) sc (fun _ _ _ _ _ _ us hl => match us, hl with | [_], _ => rfl) (fun ds P' h => ?_) (fun cd A outer s H E ds P' hr h => ?_)
  · obtain ⟨i, rfl, _⟩ := h
    rfl
  · obtain ⟨i, rfl, h1, rfl⟩ := h
    refine bd_ret (ed_shl1 (ed_var 0 rfl) ?_) rfl
    exact h1
abbrev R_is_word_of : RelF := fun ds P => ∃ (n : Nat) (i : Int), ds = [.int (n : Int), .int i] ∧ n ≤ 100000 ∧ P = (· = .bool (decide (0 ≤ i) && decide (i ≤ 2 ^ n - 1)))
theorem cal_is_word_of (T : Top K mg) : Cal P w K mg base 3 "is_word_of" (spR K R_is_word_of) := by
  obtain ⟨fd, F⟩ := T.def_ i_is_word_of rfl
  have sc : FnScope ["width", "value"] ["width", "value"] (defScope s_is_word_of) := ⟨rfl, rfl, rfl, by decide +kernel, rfl, by decide +kernel, by decide +kernel⟩
  have scN := sc.nd
  refine calR (k := 2) F (T.glo j_is_word_of rfl) sc (fun _ _ _ _ _ _ us hl => match us, hl with | [_, _], _ => rfl) (fun ds P' h => ?_) (fun cd A outer s H E ds P' hr h => ?_)
  · obtain ⟨n, i, rfl, _⟩ := h
    rfl
  · obtain ⟨n, i, rfl, h1, rfl⟩ := h
    refine bd_ret (ed_call (cal_is_between T) hr (by decide) (ea_cons (ed_var 1 rfl) (ea_cons ed_int (ea_cons (ed_sub (ed_call (cal_modulus_of T) hr (by decide) (ea_cons (ed_var 0 rfl) ea_nil) ⟨_, rfl, ?_, rfl⟩) ed_int) ea_nil))) ⟨_, _, _, rfl, rfl⟩) rfl
    exact h1
abbrev R_are_words : RelF := fun ds P => ∃ (n : Nat) (v : List Int), ds = [.int (n : Int), dV v] ∧ n ≤ 100000 ∧ v.length ≤ 100000 ∧ P = (· = .bool (v.all fun i => decide (0 ≤ i) && decide (i ≤ 2 ^ n - 1)))
theorem cal_are_words (T : Top K mg) : Cal P w K mg base 4 "are_words" (spR K R_are_words) := by
  obtain ⟨fd, F⟩ := T.def_ i_are_words rfl
  have sc : FnScope ["width", "value", "word"] ["width", "value"] (defScope s_are_words) := ⟨rfl, rfl, rfl, by decide +kernel, rfl, by decide +kernel, by decide +kernel⟩
  have scN := sc.nd
  refine calR (k := 3) F (T.glo j_are_words rfl) sc (fun _ _ _ _ _ _ us hl => match us, hl with | [_, _], _ => rfl) (fun ds P' h => ?_) (fun cd A outer s H E ds P' hr h => ?_)
  · obtain ⟨n, i, rfl, _⟩ := h
    rfl
  · obtain ⟨n, v, rfl, h1, h2, rfl⟩ := h
    refine bd_ret (ed_andV (ed_isi (T := "tuple") T.f_isinstance T.f_tuple (by decide +kernel) (ed_var 1 rfl) kit_tuple_tuple) fun hb => (ed_oneV (ed_allC T.f_all rfl (ed_lc (own := [("word", 2)]) (js := [2]) rfl scN (it_tup (ed_var 1 rfl)) (blkOk_by (N := ["width", "value", "word"]) (sc := (defScope s_are_words)) (by decide +kernel)) (fun _ _ _ _ _ => pg_name (i := 2) scN rfl (by first | exact Or.inl rfl | exact Or.inr rfl)) (by decide) (fun i hi => tg_name) (fun s H C cl fp i hi => (ed_call (cal_is_word_of T) hr (by decide) (ea_cons (ed_var 0 rfl) (ea_cons (ed_var 2 rfl) ea_nil)) ⟨_, _, rfl, ?_, rfl⟩)) ?_ ?_)))) ?_
    · exact h1
    · exact fun _ _ => rfl
    · exact h2
    · simp
end
end K86
end
section
namespace K86
open PySem PySem.Spec PyProof.Rows L2 DL WM
section
variable {P : Program} {w : World} {K : PySem.W.Frag} {mg : Str → Option Value} {base : Heap}
theorem words_ok {n : Nat} {v : List Int} {m : Nat} (h : IsVec n m v) : (v.all fun i => decide (0 ≤ i) && decide (i ≤ 2 ^ n - 1)) = true := List.all_eq_true.mpr fun x hx => by
  have := h.2 x hx
  simp; omega
abbrev R_is_vector_of : RelF := fun ds P => ∃ (n m : Nat) (v : List Int), ds = [.int (n : Int), .int (m : Int), dV v] ∧ n ≤ 100000 ∧ v.length ≤ 100000 ∧ P = (· = .bool ((v.all fun i => decide (0 ≤ i) && decide (i ≤ 2 ^ n - 1)) && decide ((v.length : Int) = (m : Int))))
theorem cal_is_vector_of (T : Top K mg) : Cal P w K mg base 5 "is_vector_of" (spR K R_is_vector_of) := by
  obtain ⟨fd, F⟩ := T.def_ i_is_vector_of rfl
  have sc : FnScope ["width", "size", "value"] ["width", "size", "value"] (defScope s_is_vector_of) := ⟨rfl, rfl, rfl, by decide +kernel, rfl, by decide +kernel, by decide +kernel⟩
  have scN := sc.nd
  refine calR (k := 4) F (T.glo j_is_vector_of rfl) sc (fun _ _ _ _ _ _ us hl => match us, hl with | [_, _, _], _ => rfl) (fun ds P' h => ?_) (fun cd A outer s H E ds P' hr h => ?_)
  · obtain ⟨n, m, i, rfl, _⟩ := h
    rfl
  · obtain ⟨n, m, v, rfl, h1, h2, rfl⟩ := h
    refine bd_ret (ed_andV (ed_call (cal_are_words T) hr (by decide) (ea_cons (ed_var 0 rfl) (ea_cons (ed_var 2 rfl) ea_nil)) ⟨_, _, rfl, ?_, ?_, rfl⟩) fun hb => (ed_oneV (ed_eqI (ed_lenT T.f_len (ed_var 2 rfl)) (ed_var 1 rfl)))) ?_
    · exact h1
    · exact h2
    · simp
abbrev R_require_vector : RelF := fun ds P => ∃ (n m : Nat) (v : List Int), ds = [.int (n : Int), .int (m : Int), dV v] ∧ n ≤ 100000 ∧ v.length ≤ 100000 ∧ IsVec n m v ∧ P = (· = .none)
theorem cal_require_vector (T : Top K mg) : Cal P w K mg base 6 "require_vector" (spR K R_require_vector) := by
  obtain ⟨fd, F⟩ := T.def_ i_require_vector rfl
  have sc : FnScope ["width", "size", "vector"] ["width", "size", "vector"] (defScope s_require_vector) := ⟨rfl, rfl, rfl, by decide +kernel, rfl, by decide +kernel, by decide +kernel⟩
  have scN := sc.nd
  refine calR (k := 5) F (T.glo j_require_vector rfl) sc (fun _ _ _ _ _ _ us hl => match us, hl with | [_, _, _], _ => rfl) (fun ds P' h => ?_) (fun cd A outer s H E ds P' hr h => ?_)
  · obtain ⟨n, m, i, rfl, _⟩ := h
    rfl
  · obtain ⟨n, m, v, rfl, h1, h2, h3, rfl⟩ := h
    refine bd_skip (td_not (td_val (ed_call (cal_is_vector_of T) hr (by decide) (ea_cons (ed_var 0 rfl) (ea_cons (ed_var 1 rfl) (ea_cons (ed_var 2 rfl) ea_nil))) ⟨_, _, _, rfl, ?_, ?_, rfl⟩))) ?_ (bd_nil rfl)
    · exact h1
    · exact h2
    · rw [words_ok h3]; simp [h3.1]
abbrev R_require_vectors : RelF := fun ds P => ∃ (n m : Nat) (B : List (List Int)), ds = [.int (n : Int), .int (m : Int), dM B] ∧ n ≤ 100000 ∧ m ≤ 100000 ∧ B.length ≤ 100000 ∧ (∀ v ∈ B, IsVec n m v) ∧ P = (· = .none)
theorem cal_require_vectors (T : Top K mg) : Cal P w K mg base 6 "require_vectors" (spR K R_require_vectors) := by
  obtain ⟨fd, F⟩ := T.def_ i_require_vectors rfl
  have sc : FnScope ["width", "size", "vectors", "vector"] ["width", "size", "vectors"] (defScope s_require_vectors) := ⟨rfl, rfl, rfl, by decide +kernel, rfl, by decide +kernel, by decide +kernel⟩
  have scN := sc.nd
  refine calR (k := 5) F (T.glo j_require_vectors rfl) sc (fun _ _ _ _ _ _ us hl => match us, hl with | [_, _, _], _ => rfl) (fun ds P' h => ?_) (fun cd A outer s H E ds P' hr h => ?_)
  · obtain ⟨n, m, i, rfl, _⟩ := h
    rfl
  · obtain ⟨n, m, v, rfl, h1, h0, h2, h3, rfl⟩ := h
    refine bd_skip (td_w (tw_or (td_not (td_val (ed_isi (T := "tuple") T.f_isinstance T.f_tuple (by decide +kernel) (ed_var 2 rfl) kit_tuple_tuple))) fun hb => (tw_or1 (td_not (td_val (ed_allC T.f_all rfl (ed_lc (own := [("vector", 3)]) (js := [3]) rfl scN (it_tup (ed_var 2 rfl)) (blkOk_by (N := ["width", "size", "vectors", "vector"]) (sc := (defScope s_require_vectors)) (by decide +kernel)) (fun _ _ _ _ _ => pg_name (i := 3) scN rfl (by first | exact Or.inl rfl | exact Or.inr rfl)) (by decide) (fun i hi => tg_name) (fun s H C cl fp i hi => (ed_call (cal_is_vector_of T) hr (by decide) (ea_cons (ed_var 0 rfl) (ea_cons (ed_var 1 rfl) (ea_cons (ed_var 3 rfl) ea_nil))) ⟨_, _, _, rfl, ?_, ?_, rfl⟩)) ?_ ?_))))))) ?_ (bd_nil rfl)
    · exact h1
    · rw [(h3 _ ‹_›).1]; exact h0
    · exact fun _ _ => rfl
    · exact h2
    · have : (v.all fun i => (i.all fun i => decide (0 ≤ i) && decide (i ≤ 2 ^ n - 1)) && decide ((i.length : Int) = (m : Int))) = true := List.all_eq_true.mpr fun x hx => by
        rw [words_ok (h3 x hx)]; simp [(h3 x hx).1]
      rw [this]; rfl
abbrev R_sum_by : RelF := fun ds P => ∃ (n : Nat) (a b : List Int), ds = [.int (n : Int), dV a, dV b] ∧ n ≤ 100000 ∧ a.length ≤ 100000 ∧ P = (· = dV (sumV n a b))
theorem cal_sum_by (T : Top K mg) : Cal P w K mg base 2 "sum_by" (spR K R_sum_by) := by
  obtain ⟨fd, F⟩ := T.def_ i_sum_by rfl
  have sc : FnScope ["width", "one", "other", "modulus", "first", "second"] ["width", "one", "other"] (defScope s_sum_by) := ⟨rfl, rfl, rfl, by decide +kernel, rfl, by decide +kernel, by decide +kernel⟩
  have scN := sc.nd
  refine calR (k := 1) F (T.glo j_sum_by rfl) sc (fun _ _ _ _ _ _ us hl => match us, hl with | [_, _, _], _ => rfl) (fun ds P' h => ?_) (fun cd A outer s H E ds P' hr h => ?_)
  · obtain ⟨n, a, b, rfl, _⟩ := h
    rfl
  · obtain ⟨n, a, b, rfl, h1, h2, rfl⟩ := h
    refine bd_set 3 (ed_call (cal_modulus_of T) hr (by decide) (ea_cons (ed_var 0 rfl) ea_nil) ⟨_, rfl, ?_, rfl⟩) ?_ scN
    · exact h1
    refine bd_ret (ed_tupleL T.f_tuple (ed_lc (own := [("first", 4), ("second", 5)]) (js := [4, 5]) rfl scN (it_zTT T.f_zip (ed_var 1 rfl) (ed_var 2 rfl)) (blkOk_by (N := ["width", "one", "other", "modulus", "first", "second"]) (sc := (defScope s_sum_by)) (by decide +kernel)) (fun _ _ _ _ _ => pg_tup rfl (pgs_cons (pg_name (i := 4) scN rfl (by first | exact Or.inl rfl | exact Or.inr rfl)) (pgs_cons (pg_name (i := 5) scN rfl (by first | exact Or.inl rfl | exact Or.inr rfl)) pgs_nil))) (by decide) (fun i hi => tg_two) (fun s H C cl fp i hi => (ed_mod (ed_add (ed_var 4 rfl) (ed_var 5 rfl)) (ed_var 3 rfl) ?_)) ?_ ?_)) ?_
    · exact pow_pos2 n
    · exact fun _ _ => rfl
    · simp; omega
    · show _ = _
      simp [dV, sumV]
abbrev R_multiple_by : RelF := fun ds P => ∃ (n : Nat) (v : List Int) (f : Int), ds = [.int (n : Int), dV v, .int f] ∧ n ≤ 100000 ∧ v.length ≤ 100000 ∧ (f.natAbs < 2 ^ 60000000 ∧ ∀ x ∈ v, x.natAbs < 2 ^ 60000000) ∧ P = (· = dV (mulV n v f))
theorem cal_multiple_by (T : Top K mg) : Cal P w K mg base 2 "multiple_by" (spR K R_multiple_by) := by
  obtain ⟨fd, F⟩ := T.def_ i_multiple_by rfl
  have sc : FnScope ["width", "vector", "factor", "modulus", "word"] ["width", "vector", "factor"] (defScope s_multiple_by) := ⟨rfl, rfl, rfl, by decide +kernel, rfl, by decide +kernel, by decide +kernel⟩
  have scN := sc.nd
  refine calR (k := 1) F (T.glo j_multiple_by rfl) sc (fun _ _ _ _ _ _ us hl => match us, hl with | [_, _, _], _ => rfl) (fun ds P' h => ?_) (fun cd A outer s H E ds P' hr h => ?_)
  · obtain ⟨n, a, b, rfl, _⟩ := h
    rfl
  · obtain ⟨n, v, f, rfl, h1, h2, h3, rfl⟩ := h
    refine bd_set 3 (ed_call (cal_modulus_of T) hr (by decide) (ea_cons (ed_var 0 rfl) ea_nil) ⟨_, rfl, ?_, rfl⟩) ?_ scN
    · exact h1
    refine bd_ret (ed_tupleL T.f_tuple (ed_lc (own := [("word", 4)]) (js := [4]) rfl scN (it_tup (ed_var 1 rfl)) (blkOk_by (N := ["width", "vector", "factor", "modulus", "word"]) (sc := (defScope s_multiple_by)) (by decide +kernel)) (fun _ _ _ _ _ => pg_name (i := 4) scN rfl (by first | exact Or.inl rfl | exact Or.inr rfl)) (by decide) (fun i hi => tg_name) (fun s H C cl fp i hi => (ed_mod (ed_mul (ed_var 2 rfl) (ed_var 4 rfl) ?_) (ed_var 3 rfl) ?_)) ?_ ?_)) ?_
    · exact mulx_ok h3.1 (h3.2 _ ‹_›) (by decide)
    · exact pow_pos2 n
    · exact fun _ _ => rfl
    · exact h2
    · show _ = _
      simp [dV, mulV]
end
end K86
end
section
namespace K86
open PySem PySem.Spec PyProof.Rows L2 DL WM
section
variable {P : Program} {w : World} {K : PySem.W.Frag} {mg : Str → Option Value} {base : Heap}
theorem natAbs_lt {x : Int} {n m : Nat} (h0 : 0 ≤ x) (h1 : x < 2 ^ n) (hm : n ≤ m) : x.natAbs < 2 ^ m := by
  have e : (x.natAbs : Int) = x := by omega
  have h2 : ((x.natAbs : Nat) : Int) < ((2 ^ n : Nat) : Int) := by rw [e]; push_cast; exact h1
  exact Nat.lt_of_lt_of_le (by exact_mod_cast h2) (Nat.pow_le_pow_right (by decide) hm)
theorem vec_small {n m : Nat} {v : List Int} (h : IsVec n m v) (hn : n ≤ 1000) : ∀ x ∈ v, x.natAbs < 2 ^ 60000000 := fun x hx => natAbs_lt (h.2 x hx).1 (h.2 x hx).2 (by omega)
abbrev R_level_of : RelF := fun ds P => ∃ (n : Nat) (x : Int), ds = [.int (n : Int), .int x] ∧ (0 ≤ x ∧ x < 2 ^ n) ∧ P = (· = .int (if x = 0 then (n : Int) else (lv x : Int)))
theorem cal_level_of (T : Top K mg) : Cal P w K mg base 1 "level_of" (spR K R_level_of) := by
  obtain ⟨fd, F⟩ := T.def_ i_level_of rfl
  have sc : FnScope ["width", "word", "level"] ["width", "word"] (defScope s_level_of) := ⟨rfl, rfl, rfl, by decide +kernel, rfl, by decide +kernel, by decide +kernel⟩
  have scN := sc.nd
  refine calR (k := 0) F (T.glo j_level_of rfl) sc (fun _ _ _ _ _ _ us hl => match us, hl with | [_, _], _ => rfl) (fun ds P' h => ?_) (fun cd A outer s H E ds P' hr h => ?_)
  · obtain ⟨n, x, rfl, _⟩ := h
    rfl
  · obtain ⟨n, x, rfl, ⟨h0, h1⟩, rfl⟩ := h
    refine bd_if (td_eqI (ed_var 1 rfl) ed_int) (fun t => bd_ret (ed_var 0 rfl) ?_) (fun t => bd_nil ?_)
    · simp at t; simp [t]
    have hx : 0 < x := by simp at t; omega
    obtain ⟨l1, l2⟩ := lv_ex hx h1
    refine bd_set 2 ed_int ?_ scN
    refine bd_while (fun m ρ' => ∃ k : Nat, ρ' = (rho0 ["width", "word", "level"] [.int (n : Int), .int x]).set 2 (some (.dat (.int (k : Int)))) ∧ k ≤ lv x ∧ m = lv x - k) (lv x) ⟨0, rfl, Nat.zero_le _, rfl⟩ PassesOwn.never ?_
    rintro m ρ' ⟨k, rfl, hk, rfl⟩
    refine ⟨_, (td_eqI (ed_odd (ed_shr (ed_var 1 rfl) (ed_var 2 rfl)) ?_) ed_int), fun t => ?_, fun t => ?_⟩
    · exact Int.ediv_nonneg h0 (Int.le_of_lt (pow_pos2 k))
    · have hk' : k ≠ lv x := fun e => by
        subst e
        have := (odd_part hx h1).1
        simp at t; omega
      exact bd_inc 2 rfl ed_int (bd_nil ⟨lv x - (k + 1), by omega, k + 1, rfl, by omega, rfl⟩) scN
    · have e : k = lv x := by
        rcases Nat.lt_or_eq_of_le hk with l | l
        · exfalso
          obtain ⟨z, hz⟩ := Int.dvd_trans (pow_dvd (show k + 1 ≤ lv x by omega)) l1.1
          have : x / 2 ^ k = 2 * z := by
            rw [hz, Int.pow_succ, Int.mul_assoc]
            exact Int.mul_ediv_cancel_left _ (Int.ne_of_gt (pow_pos2 k))
          rw [this] at t
          simp at t
        · exact l
      refine bd_ret (ed_var 2 rfl) ?_
      rw [if_neg (by omega), e]
abbrev R_inverse_of : RelF := fun ds P => ∃ (n : Nat) (x : Int), ds = [.int (n : Int), .int x] ∧ (0 < x ∧ x < 2 ^ n ∧ n ≤ 1000) ∧ x % 2 = 1 ∧ P = (· = .int (inv n x))
theorem cal_inverse_of (T : Top K mg) : Cal P w K mg base 2 "inverse_of" (spR K R_inverse_of) := by
  obtain ⟨fd, F⟩ := T.def_ i_inverse_of rfl
  have sc : FnScope ["width", "word", "modulus", "found", "bits"] ["width", "word"] (defScope s_inverse_of) := ⟨rfl, rfl, rfl, by decide +kernel, rfl, by decide +kernel, by decide +kernel⟩
  have scN := sc.nd
  refine calR (k := 1) F (T.glo j_inverse_of rfl) sc (fun _ _ _ _ _ _ us hl => match us, hl with | [_, _], _ => rfl) (fun ds P' h => ?_) (fun cd A outer s H E ds P' hr h => ?_)
  · obtain ⟨n, x, rfl, _⟩ := h
    rfl
  · obtain ⟨n, x, rfl, ⟨h0, h1, h3⟩, h2, rfl⟩ := h
    have hp := pow_pos2 n
    refine bd_set 2 (ed_call (cal_modulus_of T) hr (by decide) (ea_cons (ed_var 0 rfl) ea_nil) ⟨_, rfl, ?_, rfl⟩) ?_ scN
    · omega
    refine bd_asg (ed_tup (ea_cons ed_int (ea_cons ed_int ea_nil)) (by first | decide | simp)) (pg_tup rfl (pgs_cons (pg_name (i := 3) scN rfl (by first | exact Or.inl rfl | exact Or.inr rfl)) (pgs_cons (pg_name (i := 4) scN rfl (by first | exact Or.inl rfl | exact Or.inr rfl)) pgs_nil))) (js := [3, 4]) tg_two ?_
    have hn : 1 ≤ n := by
      rcases Nat.eq_zero_or_pos n with e | e
      · subst e; simp at h1; omega
      · exact e
    refine bd_while (fun m ρ' => ∃ (f : Int) (b : Nat), ρ' = (((rho0 ["width", "word", "modulus", "found", "bits"] [.int (n : Int), .int x]).set 2 (some (.dat (.int (2 ^ n))))).set 3 (some (.dat (.int f)))).set 4 (some (.dat (.int (b : Int)))) ∧ (0 ≤ f ∧ f < 2 ^ n) ∧ 1 ≤ b ∧ b ≤ 2000 ∧ (2 : Int) ^ min b n ∣ x * f - 1 ∧ m = n - b) (n - 1)
      ⟨1, 1, rfl, ⟨by omega, ?_⟩, Nat.le_refl _, by omega, ?_, rfl⟩ PassesOwn.never ?_
    · have := pow_lt_pow (show 0 < n by omega)
      simpa using this
    · rw [Nat.min_eq_left hn]; omega
    rintro m ρ' ⟨f, b, rfl, ⟨f0, f1⟩, b1, b2, hd, rfl⟩
    refine ⟨_, (td_lt (ed_var 4 rfl) (ed_var 0 rfl)), fun t => ?_, fun t => ?_⟩
    · have hb : b < n := by simp at t; omega
      have fa : f.natAbs < 2 ^ 1000 := natAbs_lt f0 f1 h3
      have xa : x.natAbs < 2 ^ 1000 := natAbs_lt (by omega) h1 h3
      refine bd_set 3 (ed_mod (ed_mul (ed_var 3 rfl) (ed_sub ed_int (ed_mul (ed_var 1 rfl) (ed_var 3 rfl) ?_)) ?_) (ed_var 2 rfl) ?_) ?_ scN
      · exact mulx_ok xa fa (by decide)
      · have q1 : (x * f).natAbs < 2 ^ 2000 := by
          rw [Int.natAbs_mul]
          have := Nat.mul_lt_mul'' xa fa
          rwa [← Nat.pow_add] at this
        have q2 : (2 - x * f).natAbs < 2 ^ 2001 := by
          have : (2 : Nat) ^ 2001 = 2 ^ 2000 + 2 ^ 2000 := by rw [Nat.pow_succ]; omega
          have h4 : (2 : Nat) ^ 2000 ≥ 2 := by
            calc 2 = 2 ^ 1 := rfl
              _ ≤ 2 ^ 2000 := Nat.pow_le_pow_right (by decide) (by decide)
          generalize (2 : Nat) ^ 2000 = z at *
          generalize x * f = y at *
          omega
        exact mulx_ok fa q2 (by decide)
      · exact hp
      refine bd_aug 4 iop_mul rfl ed_int (.inr ⟨by decide, by decide⟩) (bd_nil ⟨n - 2 * b, by omega, f * (2 - x * f) % 2 ^ n, 2 * b, ?_, ⟨Int.emod_nonneg _ (Int.ne_of_gt hp), Int.emod_lt_of_pos _ hp⟩, by omega, by omega, ?_, rfl⟩) scN
      · have e : ((b : Int) * 2) = ((2 * b : Nat) : Int) := by push_cast; omega
        rw [e]; rfl
      · have e1 : (2 : Int) ^ min (2 * b) n ∣ (x * f - 1) * (x * f - 1) := by
          rw [Nat.min_eq_left (by omega : b ≤ n)] at hd
          refine Int.dvd_trans (pow_dvd (show min (2 * b) n ≤ b + b by omega)) ?_
          rw [Int.pow_add]
          exact Int.mul_dvd_mul hd hd
        have e2 : f * (2 - x * f) % 2 ^ n = f * (2 - x * f) - 2 ^ n * (f * (2 - x * f) / 2 ^ n) := by rw [Int.emod_def]
        rw [e2]
        exact dv2 (-1) (-(x * (f * (2 - x * f) / 2 ^ n))) e1 (pow_dvd (Nat.min_le_right (2 * b) n)) (by grind)
    · have hb : n ≤ b := by simp at t; omega
      rw [Nat.min_eq_right hb] at hd
      refine bd_ret (ed_var 3 rfl) ?_
      rw [inv_eq ⟨f0, f1, hd⟩]
abbrev R_pivot_column : RelF := fun ds P => ∃ (v : List Int) (m : Nat), ds = [dV v, .int (m : Int)] ∧ m ≤ v.length ∧ m ≤ 100000 ∧ P = (· = optI (pcol v m))
theorem cal_pivot_column (T : Top K mg) : Cal P w K mg base 1 "pivot_column" (spR K R_pivot_column) := by
  obtain ⟨fd, F⟩ := T.def_ i_pivot_column rfl
  have sc : FnScope ["vector", "many", "column"] ["vector", "many"] (defScope s_pivot_column) := ⟨rfl, rfl, rfl, by decide +kernel, rfl, by decide +kernel, by decide +kernel⟩
  have scN := sc.nd
  refine calR (k := 0) F (T.glo j_pivot_column rfl) sc (fun _ _ _ _ _ _ us hl => match us, hl with | [_, _], _ => rfl) (fun ds P' h => ?_) (fun cd A outer s H E ds P' hr h => ?_)
  · obtain ⟨n, x, rfl, _⟩ := h
    rfl
  · obtain ⟨v, m, rfl, h1, h2, rfl⟩ := h
    refine bd_for (en := fun i ρ => ρ.set 2 (some (.dat (.int (i : Nat))))) (js := [2]) (fun i ρ' => ∃ o, ρ' = (rho0 ["vector", "many", "column"] [dV v, .int (m : Int)]).set 2 o ∧ ∀ j, j < i → ix v j = 0) rfl PassesOwn.never (it_rng1 T.f_range (ed_var 1 rfl) ?_) (pg_name (i := 2) scN rfl (by first | exact Or.inl rfl | exact Or.inr rfl)) ⟨none, rfl, fun j hj => by omega⟩ (fun i hi ρ' => tg_name) (fun i a ρ' ha hρ => ?_) (fun ρ' hρ => ?_)
    · omega
    · obtain ⟨ha1, ha2⟩ := List.getElem?_eq_some_iff.mp ha
      simp at ha1 ha2
      subst ha2
      obtain ⟨o, rfl, hz⟩ := hρ
      refine bd_if (td_neI (ed_ixV (ed_var 0 rfl) (ed_var 2 rfl) ?_) ed_int) (fun t => bd_ret (ed_var 2 rfl) ?_) (fun t => bd_nil (bd_nil ⟨_, rfl, fun j hj => ?_⟩))
      · omega
      · have e : pcol v m = some i := pcol_some.mpr ⟨ha1, by simpa using t, hz⟩
        rw [e]; rfl
      · rcases Nat.lt_or_eq_of_le (Nat.le_of_lt_succ hj) with l | l
        · exact hz j l
        · subst l; simpa using t
    · obtain ⟨o, rfl, hz⟩ := hρ
      refine bd_ret ed_non ?_
      rw [pcol_none.mpr fun i hi => hz i (by simpa using hi)]; rfl
abbrev R_with_pivot : RelF := fun ds P => ∃ (n : Nat) (v : List Int) (c m : Nat), ds = [.int (n : Int), dV v, .int (c : Int)] ∧ (IsVec n m v ∧ n ≤ 1000 ∧ m ≤ 100000) ∧ (c < m ∧ 0 < ix v c) ∧ P = (· = dV (pivV n v c))
theorem cal_with_pivot (T : Top K mg) : Cal P w K mg base 3 "with_pivot" (spR K R_with_pivot) := by
  obtain ⟨fd, F⟩ := T.def_ i_with_pivot rfl
  have sc : FnScope ["width", "vector", "column", "odd"] ["width", "vector", "column"] (defScope s_with_pivot) := ⟨rfl, rfl, rfl, by decide +kernel, rfl, by decide +kernel, by decide +kernel⟩
  have scN := sc.nd
  refine calR (k := 2) F (T.glo j_with_pivot rfl) sc (fun _ _ _ _ _ _ us hl => match us, hl with | [_, _, _], _ => rfl) (fun ds P' h => ?_) (fun cd A outer s H E ds P' hr h => ?_)
  · obtain ⟨n, v, c, m, rfl, _⟩ := h
    rfl
  · obtain ⟨n, v, c, m, rfl, ⟨hv, h1, hm⟩, ⟨h2, h3⟩, rfl⟩ := h
    obtain ⟨h4, h5⟩ := hv.at h2
    obtain ⟨o1, o2, o3, o4⟩ := odd_part h3 h5
    have hl := hv.1
    refine bd_set 3 (d := .int (ix v c / 2 ^ lv (ix v c))) (ed_shr (ed_ixV (ed_var 1 rfl) (ed_var 2 rfl) ?_) (ed_eq (ed_call (cal_level_of T) hr (by decide) (ea_cons (ed_var 0 rfl) (ea_cons (ed_ixV (ed_var 1 rfl) (ed_var 2 rfl) ?_) ea_nil)) ⟨_, _, rfl, ?_, rfl⟩) (by rw [if_neg (by omega)]))) ?_ scN
    · omega
    · omega
    · exact ⟨h4, h5⟩
    refine bd_ret (ed_call (cal_multiple_by T) hr (by decide) (ea_cons (ed_var 0 rfl) (ea_cons (ed_var 1 rfl) (ea_cons (ed_call (cal_inverse_of T) hr (by decide) (ea_cons (ed_var 0 rfl) (ea_cons (ed_var 3 rfl) ea_nil)) ⟨_, _, rfl, ?_, ?_, rfl⟩) ea_nil))) ⟨_, _, _, rfl, ?_, ?_, ?_, rfl⟩) rfl
    · exact ⟨o3, o4, h1⟩
    · exact o1
    · omega
    · omega
    · have := inv_ok (w := n) o1
      exact ⟨natAbs_lt this.1 this.2.1 (by omega), vec_small hv h1⟩
abbrev R_reduced : RelF := fun ds P => ∃ (n : Nat) (v : List Int) (c : Nat) (r : List Int) (m : Nat), ds = [.int (n : Int), dV v, .int (c : Int), dV r] ∧ (IsVec n m v ∧ IsVec n m r ∧ n ≤ 1000 ∧ m ≤ 100000) ∧ (c < m ∧ 0 < ix r c) ∧ P = (· = dV (redV n v c r))
theorem cal_reduced (T : Top K mg) : Cal P w K mg base 3 "reduced" (spR K R_reduced) := by
  obtain ⟨fd, F⟩ := T.def_ i_reduced rfl
  have sc : FnScope ["width", "vector", "column", "row", "times"] ["width", "vector", "column", "row"] (defScope s_reduced) := ⟨rfl, rfl, rfl, by decide +kernel, rfl, by decide +kernel, by decide +kernel⟩
  have scN := sc.nd
  refine calR (k := 2) F (T.glo j_reduced rfl) sc (fun _ _ _ _ _ _ us hl => match us, hl with | [_, _, _, _], _ => rfl) (fun ds P' h => ?_) (fun cd A outer s H E ds P' hr h => ?_)
  · obtain ⟨n, v, c, r, m, rfl, _⟩ := h
    rfl
  · obtain ⟨n, v, c, r, m, rfl, ⟨hv, hr', h1, hm⟩, ⟨h2, h3⟩, rfl⟩ := h
    obtain ⟨h4, h5⟩ := hv.at h2
    obtain ⟨h6, h7⟩ := hr'.at h2
    have hl := hv.1
    have hl' := hr'.1
    have q0 : 0 ≤ ix v c / ix r c := Int.ediv_nonneg h4 h6
    have q1 : ix v c / ix r c < 2 ^ n := Int.lt_of_le_of_lt (Int.ediv_le_self _ h4) h5
    refine bd_set 4 (ed_div (ed_ixV (ed_var 1 rfl) (ed_var 2 rfl) ?_) (ed_ixV (ed_var 3 rfl) (ed_var 2 rfl) ?_) ?_) ?_ scN
    · omega
    · omega
    · have hn : 0 < n := by
        rcases Nat.eq_zero_or_pos n with e | e
        · subst e; simp at h7; omega
        · exact e
      exact wide_div h3 (natAbs_lt h6 h7 (Nat.le_refl _)) hn (by omega)
    refine bd_ret (d := dV (redV n v c r)) (ed_if (td_gt (ed_var 4 rfl) ed_int) (fun hb => ed_eq (ed_call (cal_sum_by T) hr (by decide) (ea_cons (ed_var 0 rfl) (ea_cons (ed_var 1 rfl) (ea_cons (ed_call (cal_multiple_by T) hr (by decide) (ea_cons (ed_var 0 rfl) (ea_cons (ed_var 3 rfl) (ea_cons (ed_neg (ed_var 4 rfl)) ea_nil))) ⟨_, _, _, rfl, ?_, ?_, ?_, rfl⟩) ea_nil))) ⟨_, _, _, rfl, ?_, ?_, rfl⟩) ?_) (fun hb => ed_eq (ed_var 1 rfl) ?_)) rfl
    · omega
    · omega
    · refine ⟨?_, vec_small hr' h1⟩
      rw [Int.natAbs_neg]
      exact natAbs_lt q0 q1 (by omega)
    · omega
    · omega
    · rw [redV, if_pos (by simpa using hb)]
    · rw [redV, if_neg (by simpa using hb)]
end
end K86
end
section
namespace K86
open PySem PySem.Spec PyProof.Rows L2 DL WM
section
variable {P : Program} {w : World} {K : PySem.W.Frag} {mg : Str → Option Value} {base : Heap}
/-! ### class Span -/
theorem Top.fa_ok (T : Top K mg) (i : Nat) {f : He.Fa} (h : fa[i]? = some f) : f.ok K = true := List.all_eq_true.mp (Bool.and_eq_true_iff.mp T.more).1 f (List.mem_of_getElem? h)
theorem Top.Span_c (T : Top K mg) : Cls K (He.ga K "Span") := He.cls_ok (T.fa_ok 0 rfl)
theorem Top.Span_n_wide (T : Top K mg) : NoAttr K (He.ga K "Span") "wide" := He.noat_ok (T.fa_ok 1 rfl)
theorem Top.Span_n_many (T : Top K mg) : NoAttr K (He.ga K "Span") "many" := He.noat_ok (T.fa_ok 2 rfl)
theorem Top.Span_n_kept (T : Top K mg) : NoAttr K (He.ga K "Span") "kept" := He.noat_ok (T.fa_ok 3 rfl)
theorem Top.Span_m_add (T : Top K mg) : Meth K (He.ga K "Span") "add" (He.ma K (He.ga K "Span") "add") := He.meth_ok (T.fa_ok 4 rfl)
theorem Top.Span_m_put (T : Top K mg) : Meth K (He.ga K "Span") "put" (He.ma K (He.ga K "Span") "put") := He.meth_ok (T.fa_ok 5 rfl)
theorem Top.Span_m_remainder (T : Top K mg) : Meth K (He.ga K "Span") "remainder" (He.ma K (He.ga K "Span") "remainder") := He.meth_ok (T.fa_ok 6 rfl)
theorem Top.Span_m_rows (T : Top K mg) : Meth K (He.ga K "Span") "rows" (He.ma K (He.ga K "Span") "rows") := He.meth_ok (T.fa_ok 7 rfl)
theorem Top.Span_mk (T : Top K mg) : Mk K (He.ga K "Span") (He.ma K (He.ga K "Span") "__init__") := He.mkr_ok (T.fa_ok 8 rfl)
abbrev spanF (w m : Nat) (a : Addr) : List (Str × V) := [("wide", .int (w : Int)), ("many", .int (m : Int)), ("kept", .ref a)]
def SpanAt (K : PySem.W.Frag) (H : Hp) (q dx a : Addr) (w m : Nat) (kp : Kp) : Prop := H q = some (.ins (He.ga K "Span") dx (spanF w m a)) ∧ ∃ kvs, H a = some (.dK kvs) ∧ KvOk K H kvs kp m
theorem SpanAt.tk {H H' : Hp} {q dx a : Addr} {w m : Nat} {kp : Kp} {S : Addr → Prop} (h : SpanAt K H q dx a w m kp) (k : Keep S H H') (t : TK K H H') (n1 : ¬ S q) (n2 : ¬ S a) : SpanAt K H' q dx a w m kp := by
  obtain ⟨h1, kvs, h2, h3⟩ := h
  exact ⟨k _ _ h1 n1, kvs, k _ _ h2 n2, h3.tk t⟩
theorem Room.u1 {k : Nat} {A : Around} (r : Room k A) : A.units + 1 < cLine := by have := r.units; omega
def sp_put (K : PySem.W.Frag) : Sp := fun vs H Q _ => ∃ (q dx a l : Addr) (w m n : Nat) (kp : Kp) (h : List Int) (c : Nat) (W : List (List Int)) (ys : List V), SlAll K H vs [.val (.ref q), .dat (dV h), .dat (.int (c : Nat)), .val (.ref l)] ∧ SpanAt K H q dx a w m kp ∧ H l = some (.lst ys) ∧ DpAll K H ys (W.map fun v => dV v) ∧
  (w ≤ 1000 ∧ n ≤ 100000 ∧ m ≤ 60 ∧ W.length ≤ 1000 ∧ m ≤ n) ∧ (IsVec w n h ∧ Lead w m h c ∧ ∀ c r, kp c = some r → IsVec w n r ∧ Lead w m r c) ∧
  ∀ H', Keep (fun b => b = a ∨ b = l) H H' → SpanAt K H' q dx a w m (DL.stepK kp c h) → (∃ ys', H' l = some (.lst ys') ∧ DpAll K H' ys' ((W ++ stepW w kp c h).map fun v => dV v)) → Q (.bl (stepB kp c h)) H'
theorem met_Span_put (T : Top K mg) : MetA P w K mg base 4 (He.ga K "Span") "put" (sp_put K) := by
  obtain ⟨fd, F⟩ := T.def_ i_Span_put rfl
  have sc : FnScope ["self", "here", "column", "waiting", "old"] ["self", "here", "column", "waiting"] (defScope s_Span_put) := ⟨rfl, rfl, rfl, by decide +kernel, rfl, by decide +kernel, by decide +kernel⟩
  have scN := sc.nd
  refine metB (k := 3) F sc T.Span_c T.Span_m_put (fun _ _ _ _ _ _ us hl => match us, hl with | [_, _, _, _], _ => rfl) (fun vs H Q E h => ?_) (fun cd A outer s H vs Q E hr h => ?_)
  · obtain ⟨q, dx, a, l, w', m, n, kp, h, c, W, ys, h1, _⟩ := h
    exact slAll_len h1
  · obtain ⟨q, dx, a, l, w', m, n, kp, h, c, W, ys, h1, ⟨hq, kvs, ha, hk⟩, hl, hW, ⟨b1, b2, b3, b4, b5⟩, ⟨c1, c2, c3⟩, K1⟩ := h
    refine (?_ : RB _ H (rhoS ["self", "here", "column", "waiting", "old"] [.val (.ref q), .dat (dV h), .dat (.int (c : Nat)), .val (.ref l)]) _ _) _ H (env_startS h1)
    have im0 : immR (rhoS ["self", "here", "column", "waiting", "old"] [.val (.ref q), .dat (dV h), .dat (.int (c : Nat)), .val (.ref l)]) := immR_S (immR_cons rfl (immR_cons (imm_dV h) (immR_cons rfl (immR_cons rfl immR_nil))))
    have hcm : c < m := c2.1
    have hp := c2.pos
    have hlen := c1.1
    have yl : ys.length ≤ 1000 := by rw [dpA_len hW, List.length_map]; exact b4
    have mulOk : (2 ^ w' / ix h c : Int).natAbs < 2 ^ 60000000 := by
      obtain ⟨_, _, k, hk, e⟩ := id c2
      rw [e, pow_div (Nat.le_of_lt hk)]
      exact natAbs_lt (m := 60000000) (n := 1001) (Int.le_of_lt (pow_pos2 _)) (pow_lt_pow (by omega)) (by omega)
    have w0 : 0 < w' := by obtain ⟨_, _, k, hk, _⟩ := id c2; omega
    have h2w : (ix h c).natAbs < 2 ^ w' := natAbs_lt (Int.le_of_lt hp) (c1.at (by omega)).2 (Nat.le_refl _)
    have aq : a ≠ q := fun e => by rw [e, hq] at ha; cases ha
    have al : a ≠ l := fun e => by rw [e, hl] at ha; cases ha
    have ql : q ≠ l := fun e => by rw [e, hl] at hq; cases hq
    cases hk0 : kp c with
    | none =>
      have eW : stepW w' kp c h = [mulV w' h (2 ^ w' / ix h c)] := by unfold stepW; rw [hk0]
      have eK : DL.stepK kp c h = putP kp c h := by unfold DL.stepK; rw [hk0]
      have eB : stepB kp c h = true := by unfold stepB; rw [hk0]
      rw [eW, eK, eB] at K1
      refine rb_set 4 (d := .none) (ed_eq (ed_kget (Room.u1 hr) (ev_fld (ev_var 0 rfl) hq T.Span_c T.Span_n_kept rfl) ha hk (ed_var 2 rfl)) (by rw [hk0]; rfl)) ?_ scN
      refine rb_skip (t := false) (td_w (tw_and (i := false) (j := false) (td_notN (d := .none) (ed_var 4 rfl)) (fun hb => by cases hb))) rfl ?_
      refine rb_skip (t := false) (td_notN (d := .none) (ed_var 4 rfl)) rfl ?_
      refine rb_kput (Room.u1 hr) (by omega) (ev_fld (ev_var 0 rfl) hq T.Span_c T.Span_n_kept rfl) ha hk hcm (ed_var 2 rfl) (ed_var 1 rfl) (im0.set rfl) fun H1 kvs1 k1 t1 ha1 hk1 => ?_
      have hq0 := hq
      have hq : H1 q = _ := k1 _ _ hq0 (fun e => aq e.symm)
      have hl1 : H1 l = _ := k1 _ _ hl (fun e => al e.symm)
      have hW1 := dpA_tk t1 _ (immL_iff.mpr fun d hd => by obtain ⟨v, _, rfl⟩ := List.mem_map.mp hd; exact imm_dV v) hW
      refine rb_append (ev_var 3 rfl) hl1 (ed_call (cal_multiple_by T) hr (by decide) (ea_cons (ed_evI (ev_fld (ev_var 0 rfl) hq T.Span_c T.Span_n_wide rfl)) (ea_cons (ed_var 1 rfl) (ea_cons (ed_div (ed_call (cal_modulus_of T) hr (by decide) (ea_cons (ed_evI (ev_fld (ev_var 0 rfl) hq T.Span_c T.Span_n_wide rfl)) ea_nil) ⟨_, rfl, ?_, rfl⟩) (ed_ixV (ed_var 1 rfl) (ed_var 2 rfl) ?_) ?_) ea_nil))) ⟨_, _, _, rfl, ?_, ?_, ?_, rfl⟩) (by omega) (imm_dV _) (im0.set rfl) fun H2 v2 k2 t2 hl2 dv2 => ?_
      · omega
      · omega
      · exact wide_div hp h2w w0 (by omega)
      · omega
      · omega
      · exact ⟨mulOk, vec_small c1 b1⟩
      refine rb_ret ed_bl fun v H3 e3 dv => ?_
      rw [dp_bl dv]
      have ql1 : ¬ q = l := ql
      refine K1 H3 (((k1.mono fun b h => Or.inl h).trans ?_).trans (Keep.of e3)) ?_ ⟨_, e3 _ _ hl2, ?_⟩
      · intro b o hb n
        exact k2 b o hb fun e => n (.inr e)
      · exact ⟨e3 _ _ (k2 _ _ hq ql1), _, e3 _ _ (k2 _ _ ha1 al), (hk1.tk t2).tk (TK.of e3)⟩
      · rw [List.map_append]
        exact dpA_app (dpA_mono e3 (dpA_tk t2 _ (immL_iff.mpr fun d hd => by obtain ⟨v, _, rfl⟩ := List.mem_map.mp hd; exact imm_dV v) hW1)) (.cons (dp_mono e3 dv2) .nil)
    | some old =>
      obtain ⟨o1, o2⟩ := c3 c old hk0
      have op := o2.pos
      have olen := o1.1
      refine rb_set 4 (d := dV old) (ed_eq (ed_kget (Room.u1 hr) (ev_fld (ev_var 0 rfl) hq T.Span_c T.Span_n_kept rfl) ha hk (ed_var 2 rfl)) (by rw [hk0]; rfl)) ?_ scN
      have im1 := im0.set (i := 4) (x := .dat (dV old)) (imm_dV old)
      refine rb_when (td_w (tw_and (td_notN (ed_var 4 rfl)) fun hb => (tw_and1 (td_le (ed_ixV (ed_var 4 rfl) (ed_var 2 rfl) ?_) (ed_ixV (ed_var 1 rfl) (ed_var 2 rfl) ?_))))) (fun t => ?_) (fun t => ?_)
      · omega
      · omega
      · have hle : ix old c ≤ ix h c := by simpa [isNone] using t
        have eW : stepW w' kp c h = [redV w' h c old] := by unfold stepW; rw [hk0]; simp [hle]
        have eK : DL.stepK kp c h = kp := by unfold DL.stepK; rw [hk0]; simp [hle]
        have eB : stepB kp c h = false := by unfold stepB; rw [hk0]; simp [hle]
        rw [eW, eK, eB] at K1
        refine rb_append (ev_var 3 rfl) hl (ed_call (cal_reduced T) hr (by decide) (ea_cons (ed_evI (ev_fld (ev_var 0 rfl) hq T.Span_c T.Span_n_wide rfl)) (ea_cons (ed_var 1 rfl) (ea_cons (ed_var 2 rfl) (ea_cons (ed_var 4 rfl) ea_nil)))) ⟨_, _, _, _, n, rfl, ?_, ?_, rfl⟩) (by omega) (imm_dV _) im1 fun H2 v2 k2 t2 hl2 dv2 => ?_
        · exact ⟨c1, o1, b1, b2⟩
        · exact ⟨by omega, op⟩
        refine rb_ret ed_bl fun v H3 e3 dv => ?_
        rw [dp_bl dv]
        refine K1 H3 ((k2.mono fun b h => Or.inr h).trans (Keep.of e3)) ?_ ⟨_, e3 _ _ hl2, ?_⟩
        · exact ⟨e3 _ _ (k2 _ _ hq ql), _, e3 _ _ (k2 _ _ ha al), (hk.tk t2).tk (TK.of e3)⟩
        · rw [List.map_append]
          exact dpA_app (dpA_mono e3 (dpA_tk t2 _ (immL_iff.mpr fun d hd => by obtain ⟨v, _, rfl⟩ := List.mem_map.mp hd; exact imm_dV v) hW)) (.cons (dp_mono e3 dv2) .nil)
      · have hle : ¬ ix old c ≤ ix h c := by simpa [isNone] using t
        have eW : stepW w' kp c h = [redV w' old c h, mulV w' h (2 ^ w' / ix h c)] := by unfold stepW; rw [hk0]; simp [hle]
        have eK : DL.stepK kp c h = putP kp c h := by unfold DL.stepK; rw [hk0]; simp [hle]
        have eB : stepB kp c h = true := by unfold stepB; rw [hk0]; simp [hle]
        rw [eW, eK, eB] at K1
        refine rb_when (t := true) (td_notN (d := dV old) (ed_var 4 rfl)) (fun _ => ?_) (fun t => by cases t)
        refine rb_append (ev_var 3 rfl) hl (ed_call (cal_reduced T) hr (by decide) (ea_cons (ed_evI (ev_fld (ev_var 0 rfl) hq T.Span_c T.Span_n_wide rfl)) (ea_cons (ed_var 4 rfl) (ea_cons (ed_var 2 rfl) (ea_cons (ed_var 1 rfl) ea_nil)))) ⟨_, _, _, _, n, rfl, ?_, ?_, rfl⟩) (by omega) (imm_dV _) im1 fun H0 v0 k0 t0 hl0 dv0 => rb_nil fun σ1 H1' E1 => ?_
        · exact ⟨o1, c1, b1, b2⟩
        · exact ⟨by omega, hp⟩
        refine (?_ : RB _ H0 _ _ _) σ1 H1' E1
        have hq0 := hq
        have hq : H0 q = _ := k0 _ _ hq0 ql
        have ha0 : H0 a = _ := k0 _ _ ha al
        refine rb_kput (Room.u1 hr) (by omega) (ev_fld (ev_var 0 rfl) hq T.Span_c T.Span_n_kept rfl) ha0 (hk.tk t0) hcm (ed_var 2 rfl) (ed_var 1 rfl) im1 fun H1 kvs1 k1 t1 ha1 hk1 => ?_
        have hq00 := hq
        have hq : H1 q = _ := k1 _ _ hq00 (fun e => aq e.symm)
        have hl1 : H1 l = _ := k1 _ _ hl0 (fun e => al e.symm)
        have im : ∀ (W : List (List Int)), immL (W.map fun v => dV v) = true := fun W => immL_iff.mpr fun d hd => by obtain ⟨v, _, rfl⟩ := List.mem_map.mp hd; exact imm_dV v
        have hW1 := dpA_tk (t0.trans t1) _ (im _) hW
        refine rb_append (ev_var 3 rfl) hl1 (ed_call (cal_multiple_by T) hr (by decide) (ea_cons (ed_evI (ev_fld (ev_var 0 rfl) hq T.Span_c T.Span_n_wide rfl)) (ea_cons (ed_var 1 rfl) (ea_cons (ed_div (ed_call (cal_modulus_of T) hr (by decide) (ea_cons (ed_evI (ev_fld (ev_var 0 rfl) hq T.Span_c T.Span_n_wide rfl)) ea_nil) ⟨_, rfl, ?_, rfl⟩) (ed_ixV (ed_var 1 rfl) (ed_var 2 rfl) ?_) ?_) ea_nil))) ⟨_, _, _, rfl, ?_, ?_, ?_, rfl⟩) (by simp; omega) (imm_dV _) im1 fun H2 v2 k2 t2 hl2 dv2 => ?_
        · omega
        · omega
        · exact wide_div hp h2w w0 (by omega)
        · omega
        · omega
        · exact ⟨mulOk, vec_small c1 b1⟩
        refine rb_ret ed_bl fun v H3 e3 dv => ?_
        rw [dp_bl dv]
        refine K1 H3 ((((k0.mono fun b h => Or.inr h).trans (k1.mono fun b h => Or.inl h)).trans (k2.mono fun b h => Or.inr h)).trans (Keep.of e3)) ?_ ⟨_, e3 _ _ hl2, ?_⟩
        · exact ⟨e3 _ _ (k2 _ _ hq ql), _, e3 _ _ (k2 _ _ ha1 al), (hk1.tk t2).tk (TK.of e3)⟩
        · have e : (W ++ [redV w' old c h, mulV w' h (2 ^ w' / ix h c)]).map (fun v => dV v) = ((W.map fun v => dV v) ++ [dV (redV w' old c h)]) ++ [dV (mulV w' h (2 ^ w' / ix h c))] := by simp
          rw [e]
          exact dpA_app (dpA_app (dpA_mono e3 (dpA_tk t2 _ (im _) hW1)) (.cons (dp_mono e3 (dp_tk (t1.trans t2) _ (imm_dV _) dv0)) .nil)) (.cons (dp_mono e3 dv2) .nil)
end
end K86
end
section
namespace K86
open PySem PySem.Spec PyProof.Rows L2 DL WM
section
variable {P : Program} {w : World} {K : PySem.W.Frag} {mg : Str → Option Value} {base : Heap}
def sp_add (K : PySem.W.Frag) : Sp := fun vs H Q _ => ∃ (q dx a : Addr) (w m n : Nat) (kp : Kp) (v : List Int) (L : List Int → Prop), SlAll K H vs [.val (.ref q), .dat (dV v)] ∧ SpanAt K H q dx a w m kp ∧ (w ≤ 1000 ∧ n ≤ 100000 ∧ m ≤ 60 ∧ m ≤ n) ∧ (IsVec w n v ∧ KOk w n m kp) ∧
  (Lin w n L ∧ L v ∧ ∀ c r, kp c = some r → L r) ∧ ∀ u H' kp', Keep (· = a) H H' → SpanAt K H' q dx a w m kp' → KOk w n m kp' → (∀ c r, kp' c = some r → L r) → (∀ f, SpG w m kp [v] 0 f ↔ Sk w m kp' 0 f) → Q u H'
theorem met_Span_add (T : Top K mg) : MetA P w K mg base 5 (He.ga K "Span") "add" (sp_add K) := by
  obtain ⟨fd, F⟩ := T.def_ i_Span_add rfl
  have sc : FnScope ["self", "vector", "has_grown", "waiting", "here", "column"] ["self", "vector"] (defScope s_Span_add) := ⟨rfl, rfl, rfl, by decide +kernel, rfl, by decide +kernel, by decide +kernel⟩
  have scN := sc.nd
  refine metB (k := 4) F sc T.Span_c T.Span_m_add (fun _ _ _ _ _ _ us hl => match us, hl with | [_, _], _ => rfl) (fun vs H Q E h => ?_) (fun cd A outer s H vs Q E hr h => ?_)
  · obtain ⟨q, dx, a, w', m, n, kp, v, L, h1, _⟩ := h
    exact slAll_len h1
  · obtain ⟨q, dx, a, w', m, n, kp, v, L, h1, hS, ⟨b1, b2, b3, b4⟩, ⟨c1, c2⟩, ⟨l1, l2, l3⟩, K1⟩ := h
    refine (?_ : RB _ H (rhoS ["self", "vector", "has_grown", "waiting", "here", "column"] [.val (.ref q), .dat (dV v)]) _ _) _ H (env_startS h1)
    refine rb_set 2 ed_bl ?_ scN
    have im0 : immR (rhoS ["self", "vector", "has_grown", "waiting", "here", "column"] [.val (.ref q), .dat (dV v)]) := immR_S (immR_cons rfl (immR_cons (imm_dV v) immR_nil))
    refine rb_setL 3 (ea_cons (ed_var 1 rfl) ea_nil) (by simp) (fun H1 l ys e1 hl0 hl hW => ?_) scN
    have hS1 : SpanAt K H1 q dx a w' m kp := hS.tk (Keep.of (S := fun _ => False) e1) (TK.of e1) id id
    have ha0 : ∃ o, H a = some o := by obtain ⟨_, kvs, h2, _⟩ := hS; exact ⟨_, h2⟩
    refine rb_while (fun m0 F ρ => ∃ (kp' : Kp) (W : List (List Int)) (b : Bool) (o4 o5 : Option Slot) (ys : List V), ρ = [some (.val (.ref q)), some (.dat (dV v)), some (.dat (.bool b)), some (.val (.ref l)), o4, o5] ∧ immR ρ ∧ SpanAt K F q dx a w' m kp' ∧ F l = some (.lst ys) ∧ DpAll K F ys (W.map fun v => dV v) ∧
      Keep (· = a) H F ∧ (SInv w' n m kp' W ∧ Stk m W) ∧ ((∀ c r, kp' c = some r → L r) ∧ ∀ u ∈ W, L u) ∧ (∀ f, SpG w' m kp [v] 0 f ↔ SpG w' m kp' W 0 f) ∧ m0 = mu m W)
      (mu m [v]) ⟨kp, [v], false, none, none, ys, rfl, ?_, hS1, hl, hW, Keep.of e1, ⟨c2.inv (fun u hu => by simp at hu; subst hu; exact c1), ⟨by simp, fun j u hj i hi him => ?_⟩⟩, ⟨l3, fun u hu => by simp at hu; subst hu; exact l2⟩, fun f => Iff.rfl, rfl⟩ PassesOwn.never ?_
    · exact (im0.set (i := 2) (x := .dat (.bool false)) rfl).set (i := 3) (x := .val (.ref l)) rfl
    · have := (List.getElem?_eq_some_iff.mp hj).1
      simp at this; omega
    rintro m0 F ρ ⟨kp', W, b, o4, o5, ys', rfl, im, hS', hl', hW', k0, ⟨hI, hStk⟩, ⟨hL1, hL2⟩, hsp, rfl⟩
    clear hl hW hS1
    have hq : F q = _ := hS'.1
    refine ⟨!PyData.eqv (dLM W) (dLM []), td_neD (Room.units hr) (ed_ev (ev_var 3 rfl) (.lst (SqL.of hl') hW')) (ed_lst ea_nil (by decide)) (encLM.shaped (by decide) W) (encLM.shaped (by decide) []), fun t => ?_, fun t => ?_⟩
    · have hne : W ≠ [] := fun e => by subst e; rw [encLM.dec] at t; simp at t
      rcases List.eq_nil_or_concat W with e | ⟨W0, h, e⟩
      · exact (hne e).elim
      rw [List.concat_eq_append] at e
      subst e
      rw [List.map_append] at hW'
      obtain ⟨ys0, vh, rfl, hY0, hvh⟩ := dpA_inv hW'
      have hh : IsVec w' n h := hI.wait h (by simp)
      have hlen := hh.1
      refine rb_pop 4 (ev_var 3 rfl) hl' hvh (imm_dV h) im (fun H2 k2 t2 hl2 => ?_) scN
      have hql : q ≠ l := fun e => by rw [e, hl'] at hq; cases hq
      have hal : a ≠ l := fun e => by obtain ⟨_, kvs, z, _⟩ := hS'; rw [e, hl'] at z; cases z
      have hS2 : SpanAt K H2 q dx a w' m kp' := hS'.tk k2 t2 hql hal
      have hq0 := hq
      have hq : H2 q = _ := hS2.1
      have hY2 := dpA_tk t2 _ (imm_mat W0) hY0
      have kk : Keep (· = a) H H2 := fun x o hx n => k2 x o (k0 x o hx n) fun e => by rw [e] at hx; rw [hl0] at hx; cases hx
      have im2 := im.set (i := 4) (x := .dat (dV h)) (imm_dV h)
      refine rb_set 5 (ed_call (cal_pivot_column T) hr (by decide) (ea_cons (ed_var 4 rfl) (ea_cons (ed_evI (ev_fld (ev_var 0 rfl) hq T.Span_c T.Span_n_many rfl)) ea_nil)) ⟨_, _, rfl, ?_, ?_, rfl⟩) ?_ scN
      · omega
      · omega
      cases hp : pcol h m with
      | none =>
        obtain ⟨a1, a2, a3⟩ := step_none hI hp
        refine rb_when (t := false) (td_notN (d := .none) (ed_var 5 rfl)) (fun t => by cases t) fun _ => ?_
        refine rb_nil fun σ3 H3 E3 => ⟨_, H2, _, a3, ⟨kp', W0, b, _, _, ys0, rfl, ?_, hS2, hl2, hY2, kk, ⟨a1, stk_none hStk⟩, ⟨hL1, fun u hu => hL2 u (List.mem_append_left _ hu)⟩, fun f => (hsp f).trans (a2 f), rfl⟩, E3⟩
        exact im2.set (i := 5) (x := .dat .none) rfl
      | some c =>
        obtain ⟨p1, p2, p3⟩ := pcol_some.mp hp
        have hpos : 0 < ix h c := by have := (hh.at (show c < n by omega)).1; omega
        refine rb_when (t := true) (td_notN (d := .int (c : Int)) (ed_var 5 rfl)) (fun _ => ?_) (fun t => by cases t)
        refine rb_set 4 (ed_call (cal_with_pivot T) hr (by decide) (ea_cons (ed_evI (ev_fld (ev_var 0 rfl) hq T.Span_c T.Span_n_wide rfl)) (ea_cons (ed_var 4 rfl) (ea_cons (ed_var 5 rfl) ea_nil))) ⟨_, _, _, n, rfl, ?_, ?_, rfl⟩) ?_ scN
        · exact ⟨hh, b1, b2⟩
        · exact ⟨by omega, hpos⟩
        obtain ⟨a1, a2, a3, a4, a5, a6⟩ := step_some (h' := pivV w' h c) b4 hI hp rfl
        have lin := step_lin (c := c) l1 (fun c r e => ⟨(hI.kept c r e).1, hL1 c r e⟩) a5.1 (l1.piv hh.1 (hL2 h (by simp)))
        have im4 : immR ((((([some (.val (.ref q)), some (.dat (dV v)), some (.dat (.bool b)), some (.val (.ref l)), o4, o5] : Rho).set 4 (some (.dat (dV h)))).set 5 (some (.dat (.int (c : Int)))))).set 4 (some (.dat (dV (pivV w' h c))))) := (im2.set (i := 5) (x := .dat (.int (c : Int))) rfl).set (i := 4) (imm_dV _)
        refine rb_setW 2 (fun σ3 H3 E3 => ?_) scN
        refine we_or (we_meth (met_Span_put T) hr (by decide) E3 (ev_var 0 rfl) hq rfl (eas_cons (ed_var 4 rfl) (eas_cons (ed_var 5 rfl) (eas_consV (ev_var 3 rfl) eas_nil))) fun vs4 H4 e4 hs4 => ?_)
        have E4 := E3.mono e4
        have e24 := E4.2.2
        refine ⟨q, dx, a, l, w', m, n, kp', pivV w' h c, c, W0, ys0, .cons rfl hs4, hS2.tk (Keep.of (S := fun _ => False) e24) (TK.of e24) id id, e24 _ _ hl2, dpA_mono e24 hY2, ⟨b1, b2, b3, ?_, b4⟩, ⟨a5, a6, fun c r e => hI.kept c r e⟩, fun H5 k5 hS5 ⟨ys5, hl5, hY5⟩ => ?_⟩
        · have := hStk.1; simp at this; omega
        have t5 : TK K H4 H5 := k5.tk fun b hb => by
          rcases hb with e | e
          · obtain ⟨_, kvs, z, _⟩ := hS2; rw [e, e24 _ _ z]; trivial
          · rw [e, e24 _ _ hl2]; trivial
        have E5 := E4.tk t5 im4 (Same.refl H5)
        have kk5 : Keep (· = a) H H5 := fun x o hx n => k5 x o (e24 _ _ (kk x o hx n)) fun z => by
          rcases z with e | e
          · exact n e
          · rw [e] at hx; rw [hl0] at hx; cases hx
        refine ⟨stepB kp' c (pivV w' h c), rfl, fun _ => ⟨H5, .dat (.bool true), ?_, E5, .bl true⟩, fun _ => (ed_oneV (d := .bool b) (ed_var 2 rfl)) _ _ _ E5 fun v6 H6 e6 dv6 => ⟨H5, .dat (.bool b), ?_, E5.mono e6, dv6⟩⟩
        all_goals
          exact rb_nil fun σ6 H6 E6 => wb_nil ⟨mu m (W0 ++ stepW w' kp' c (pivV w' h c)), H5, _, a3, ⟨DL.stepK kp' c (pivV w' h c), W0 ++ stepW w' kp' c (pivV w' h c), _, some (.dat (dV (pivV w' h c))), some (.dat (.int (c : Int))), ys5, rfl, im4.set (i := 2) (x := .dat (.bool _)) rfl, hS5, hl5, hY5, kk5,
            ⟨a1, stk_some hStk hp (stepW_len _ _ _ _) a4⟩, ⟨lin.1, fun u hu => (List.mem_append.mp hu).elim (fun z => hL2 u (List.mem_append_left _ z)) (lin.2 u)⟩, fun f => (hsp f).trans (a2 f), rfl⟩, E6⟩
    · have hW0 : W = [] := by
        rw [encLM.dec] at t
        simpa using t
      subst hW0
      refine rb_ret (ed_var 2 rfl) fun v7 H7 e7 dv7 => ?_
      exact K1 v7 H7 kp' (k0.trans (Keep.of e7)) (hS'.tk (Keep.of (S := fun _ => False) e7) (TK.of e7) id id) hI.ok hL1 fun f => (hsp f).trans ⟨fun z => z.mono fun s hs => gs_nil.mp hs, fun z => z.mono fun s hs => gs_nil.mpr hs⟩
end
end K86
end
section
namespace K86
open PySem PySem.Spec PyProof.Rows L2 DL WM
section
variable {P : Program} {w : World} {K : PySem.W.Frag} {mg : Str → Option Value} {base : Heap}
theorem getD_cols {m : Nat} {kp : Kp} {c : Nat} (h : c ∈ colsOf m kp) : kp c = some ((kp c).getD []) := by obtain ⟨_, r, e⟩ := mem_cols h; rw [e]; rfl
def sp_rem (K : PySem.W.Frag) : Sp := fun vs H Q _ => ∃ (q dx a : Addr) (w m n : Nat) (kp : Kp) (v : List Int), SlAll K H vs [.val (.ref q), .dat (dV v)] ∧ SpanAt K H q dx a w m kp ∧ (w ≤ 1000 ∧ n ≤ 100000 ∧ m ≤ 60 ∧ m ≤ n) ∧ (IsVec w n v ∧ ∀ c r, kp c = some r → IsVec w n r ∧ Lead w m r c) ∧
  ∀ u H', Same H H' → Dp K H' u (dV (remK w kp (colsOf m kp) v)) → Q u H'
theorem met_Span_remainder (T : Top K mg) : MetA P w K mg base 4 (He.ga K "Span") "remainder" (sp_rem K) := by
  obtain ⟨fd, F⟩ := T.def_ i_Span_remainder rfl
  have sc : FnScope ["self", "vector", "column"] ["self", "vector"] (defScope s_Span_remainder) := ⟨rfl, rfl, rfl, by decide +kernel, rfl, by decide +kernel, by decide +kernel⟩
  have scN := sc.nd
  refine metB (k := 3) F sc T.Span_c T.Span_m_remainder (fun _ _ _ _ _ _ us hl => match us, hl with | [_, _], _ => rfl) (fun vs H Q E h => ?_) (fun cd A outer s H vs Q E hr h => ?_)
  · obtain ⟨q, dx, a, w', m, n, kp, v, h1, _⟩ := h
    exact slAll_len h1
  · obtain ⟨q, dx, a, w', m, n, kp, v, h1, ⟨hq, kvs, ha, hk⟩, ⟨b1, b2, b3, b4⟩, ⟨c1, c2⟩, K1⟩ := h
    refine (?_ : RB _ H (rhoS ["self", "vector", "column"] [.val (.ref q), .dat (dV v)]) _ _) _ H (env_startS h1)
    refine rb_bd (Kn := fun _ => False) (P := fun d => d = dV (remK w' kp (colsOf m kp) v)) ?_ (fun d u H' e e1 dv => K1 u H' e1 (e ▸ dv)) (fun _ _ _ h _ => h.elim)
    refine bd_for (en := fun c ρ => ρ.set 2 (some (.dat (.int (c : Nat))))) (js := [2]) (fun i ρ' => ∃ o, ρ' = [some (.val (.ref q)), some (.dat (dV (remK w' kp ((colsOf m kp).take i) v))), o]) rfl PassesOwn.never (it_lst (ed_sortedK T.f_sorted rfl (ev_fld (ev_var 0 rfl) hq T.Span_c T.Span_n_kept rfl) ha hk (by omega))) (pg_name (i := 2) scN rfl (by first | exact Or.inl rfl | exact Or.inr rfl)) ⟨none, rfl⟩ (fun i hi ρ' => tg_name) (fun i c ρ' hc hρ => ?_) (fun ρ' hρ => ?_)
    · obtain ⟨o, rfl⟩ := hρ
      obtain ⟨hcm, r, hrw⟩ := mem_cols (List.mem_of_getElem? hc)
      obtain ⟨rv, rl⟩ := c2 c r hrw
      have xv : IsVec w' n (remK w' kp ((colsOf m kp).take i) v) := rem_vec (fun c r e => (c2 c r e).1) (fun d hd => (List.mem_filter.mp (List.mem_of_mem_take hd)).2) c1
      refine bd_set 1 (ed_call (cal_reduced T) hr (by decide) (ea_cons (ed_evI (ev_fld (ev_var 0 rfl) hq T.Span_c T.Span_n_wide rfl)) (ea_cons (ed_var 1 rfl) (ea_cons (ed_var 2 rfl) (ea_cons (ed_kix (Room.u1 hr) (ev_fld (ev_var 0 rfl) hq T.Span_c T.Span_n_kept rfl) ha hk (ed_var 2 rfl) hrw) ea_nil)))) ⟨_, _, _, _, n, rfl, ?_, ?_, rfl⟩) (bd_nil ⟨some (.dat (.int (c : Nat))), ?_⟩) scN
      · exact ⟨xv, rv, b1, b2⟩
      · exact ⟨by omega, rl.pos⟩
      · rw [take_get hc, remK_snoc, hrw]; rfl
    · obtain ⟨o, rfl⟩ := hρ
      refine bd_ret (ed_var 1 rfl) ?_
      rw [List.take_length]
def sp_rows (K : PySem.W.Frag) : Sp := fun vs H Q _ => ∃ (q dx a : Addr) (w m n : Nat) (kp : Kp), SlAll K H vs [.val (.ref q)] ∧ SpanAt K H q dx a w m kp ∧ (w ≤ 1000 ∧ n ≤ 100000 ∧ m ≤ 60 ∧ m ≤ n) ∧ KOk w n m kp ∧
  ∀ u H', Same H H' → Dp K H' u (dM (rowsF w m kp)) → Q u H'
theorem met_Span_rows (T : Top K mg) : MetA P w K mg base 4 (He.ga K "Span") "rows" (sp_rows K) := by
  obtain ⟨fd, F⟩ := T.def_ i_Span_rows rfl
  have sc : FnScope ["self", "found", "column", "row", "later"] ["self"] (defScope s_Span_rows) := ⟨rfl, rfl, rfl, by decide +kernel, rfl, by decide +kernel, by decide +kernel⟩
  have scN := sc.nd
  refine metB (k := 3) F sc T.Span_c T.Span_m_rows (fun _ _ _ _ _ _ us hl => match us, hl with | [_], _ => rfl) (fun vs H Q E h => ?_) (fun cd A outer s H vs Q E hr h => ?_)
  · obtain ⟨q, dx, a, w', m, n, kp, h1, _⟩ := h
    exact slAll_len h1
  · obtain ⟨q, dx, a, w', m, n, kp, h1, ⟨hq0, kvs, ha0, hk0⟩, ⟨b1, b2, b3, b4⟩, c2, K1⟩ := h
    refine (?_ : RB _ H (rhoS ["self", "found", "column", "row", "later"] [.val (.ref q)]) _ _) _ H (env_startS h1)
    refine rb_setD 1 (fun H1 fa e1 hfa0 hfa => ?_) scN
    have im1 : immR ([some (.val (.ref q)), some (.val (.ref fa)), none, none, none] : Rho) := (immR_S (immR_cons rfl immR_nil) : immR (rhoS ["self", "found", "column", "row", "later"] [.val (.ref q)])).set (i := 1) (x := .val (.ref fa)) rfl
    refine rb_for (en := fun c ρ => ρ.set 2 (some (.dat (.int (c : Nat))))) (js := [2]) (G := SK) (items := (colsOf m kp).reverse) (enc := fun c => .int (c : Nat))
      (W := fun H2 i F ρ => ∃ o2 o3 o4 kvs2, ρ = [some (.val (.ref q)), some (.val (.ref fa)), o2, o3, o4] ∧ immR ρ ∧ Keep (· = fa) H2 F ∧ F fa = some (.dK kvs2) ∧ KvOk K F kvs2 (rowK w' m kp (((colsOf m kp).reverse.take i).reverse)) m) rfl PassesOwn.never
      (im_lst (ed_sortedRK T.f_sorted rfl (ev_fld (ev_var 0 rfl) (e1 _ _ hq0) T.Span_c T.Span_n_kept rfl) (e1 _ _ ha0) (hk0.tk (TK.of e1)) (by omega)) (fun d hd => by obtain ⟨c, _, rfl⟩ := List.mem_map.mp hd; rfl)) (pg_name (i := 2) scN rfl (by first | exact Or.inl rfl | exact Or.inr rfl))
      (fun H2 e2 => ⟨none, none, none, [], rfl, im1, Keep.of (Same.refl _), e2 _ _ hfa, KvOk.nil⟩) (fun H2 i F' H' ρ' e2 ⟨_, _, _, _, _, _, k2, _, _⟩ e3 => ⟨(· = fa), k2.trans (Keep.of e3), fun b hb => by rw [hb, e2 _ _ hfa]; trivial⟩) (fun i hi ρ' => tg_name) (fun H2 i c F ρ' e2 hc hW => ?_) (fun H2 F ρ' e2 hW => ?_)
    · obtain ⟨o2, o3, o4, kvs2, rfl, im, k2, hf, hk2⟩ := hW
      have hFs : Same H F := fun b o hb => k2 b o (e2 _ _ (e1 _ _ hb)) fun z => by rw [z, hfa0] at hb; cases hb
      have hq : F q = _ := hFs _ _ hq0
      have ha : F a = _ := hFs _ _ ha0
      have hk := hk0.tk (TK.of hFs)
      obtain ⟨hcm, r, hrw⟩ := mem_cols (List.mem_reverse.mp (List.mem_of_getElem? hc))
      obtain ⟨rv, rl⟩ := c2.kept c r hrw
      obtain ⟨lo, I⟩ := rowK_suffix b4 c2 (rev_split (colsOf m kp) i)
      have rt := rev_take hc
      generalize hfk : rowK w' m kp (((colsOf m kp).reverse.take i).reverse) = fk at *
      have hx : ∀ j, IsVec w' n (remK w' fk ((colsOf m fk).take j) r) := fun j => rem_vec (fun c r e => (I.ok.kept c r e).1) (fun d hd => (List.mem_filter.mp (List.mem_of_mem_take hd)).2) rv
      refine rb_set 3 (ed_kix (Room.u1 hr) (ev_fld (ev_var 0 rfl) hq T.Span_c T.Span_n_kept rfl) ha hk (ed_var 2 rfl) hrw) ?_ scN
      refine rb_sd (Kn := fun ρ2 => ∃ o, ρ2 = [some (.val (.ref q)), some (.val (.ref fa)), some (.dat (.int (c : Nat))), some (.dat (dV (remK w' fk (colsOf m fk) r))), o] ∧ ∀ x, o = some x → immS x = true) (P := fun _ => False)
        (sd_for (en := fun c ρ => ρ.set 4 (some (.dat (.int (c : Nat))))) (js := [4]) (items := colsOf m fk) (enc := fun c => .int (c : Nat)) (fun j ρ2 => ∃ o, ρ2 = [some (.val (.ref q)), some (.val (.ref fa)), some (.dat (.int (c : Nat))), some (.dat (dV (remK w' fk ((colsOf m fk).take j) r))), o] ∧ ∀ x, o = some x → immS x = true) rfl PassesOwn.never
          (it_lst (ed_sortedK T.f_sorted rfl (ev_var 1 rfl) hf hk2 (by omega))) (pg_name (i := 4) scN rfl (by first | exact Or.inl rfl | exact Or.inr rfl)) ⟨o4, rfl, fun x hx => im 4 x (by rw [hx]; rfl)⟩ (fun j hj ρ2 => tg_name) (fun j d ρ2 hd hρ => ?_) (fun ρ2 hρ => ?_)) (fun _ _ _ h => h.elim) (fun ρ2 hρ => ?_)
      · obtain ⟨o, rfl, ho⟩ := hρ
        obtain ⟨hdm, r2, hrw2⟩ := mem_cols (List.mem_of_getElem? hd)
        obtain ⟨rv2, rl2⟩ := I.ok.kept d r2 hrw2
        refine bd_set 3 (ed_call (cal_reduced T) hr (by decide) (ea_cons (ed_evI (ev_fld (ev_var 0 rfl) hq T.Span_c T.Span_n_wide rfl)) (ea_cons (ed_var 3 rfl) (ea_cons (ed_var 4 rfl) (ea_cons (ed_kix (Room.u1 hr) (ev_var 1 rfl) hf hk2 (ed_var 4 rfl) hrw2) ea_nil)))) ⟨_, _, _, _, n, rfl, ?_, ?_, rfl⟩) (bd_nil ⟨some (.dat (.int (d : Nat))), ?_, fun x hx => by cases hx; rfl⟩) scN
        · exact ⟨hx j, rv2, b1, b2⟩
        · exact ⟨by omega, rl2.pos⟩
        · rw [take_get hd, remK_snoc, hrw2]; rfl
      · obtain ⟨o, rfl, ho⟩ := hρ
        exact ⟨o, by rw [List.take_length], ho⟩
      · obtain ⟨o, rfl, ho⟩ := hρ
        have im3 : immR ([some (.val (.ref q)), some (.val (.ref fa)), some (.dat (.int (c : Nat))), some (.dat (dV (remK w' fk (colsOf m fk) r))), o] : Rho) := by
          cases o with
          | none => exact (((im.set (i := 2) (x := .dat (.int (c : Nat))) rfl).set (i := 3) (x := .dat (dV (remK w' fk (colsOf m fk) r))) (imm_dV _)).setN (i := 4))
          | some x => exact (((im.set (i := 2) (x := .dat (.int (c : Nat))) rfl).set (i := 3) (x := .dat (dV (remK w' fk (colsOf m fk) r))) (imm_dV _)).set (i := 4) (ho x rfl))
        refine rb_kput (Room.u1 hr) (by omega) (ev_var 1 rfl) hf hk2 hcm (ed_var 2 rfl) (ed_var 3 rfl) im3 fun H4 kvs4 k4 t4 hf4 hk4 => rb_nil fun σ5 H5 E5 => ⟨H4, _, ⟨_, _, _, kvs4, rfl, im3, k2.trans k4, hf4, ?_⟩, E5⟩
        rw [rt]
        show KvOk K H4 kvs4 (putP (rowK w' m kp (((colsOf m kp).reverse.take i).reverse)) c (remK w' (rowK w' m kp (((colsOf m kp).reverse.take i).reverse)) (colsOf m (rowK w' m kp (((colsOf m kp).reverse.take i).reverse))) ((kp c).getD []))) m
        rw [hfk, hrw]
        exact hk4
    · obtain ⟨o2, o3, o4, kvs2, rfl, im, k2, hf, hk2⟩ := hW
      rw [List.take_length, List.reverse_reverse] at hk2
      have hFs : Same H F := fun b o hb => k2 b o (e2 _ _ (e1 _ _ hb)) fun z => by rw [z, hfa0] at hb; cases hb
      refine rb_ret (d := dM (rowsF w' m kp)) (ed_eq (ed_tupleL T.f_tuple (ed_lc (own := [("column", 2)]) (js := [2]) rfl scN (it_lst (ed_sortedK T.f_sorted rfl (ev_var 1 rfl) hf hk2 (by omega))) (blkOk_by (N := ["self", "found", "column", "row", "later"]) (sc := (defScope s_Span_rows)) (by decide +kernel)) (fun _ _ _ _ _ => pg_name (i := 2) scN rfl (by first | exact Or.inl rfl | exact Or.inr rfl)) (by decide) (fun i hi => tg_name) (fun s H C cl fp i hi => (ed_kix (m := m) (kp := rowK w' m kp (colsOf m kp)) (r := (rowK w' m kp (colsOf m kp) i).getD []) (Room.u1 hr) (ev_var 1 rfl) hf hk2 (ed_var 2 rfl) (getD_cols hi))) ?_ ?_)) ?_) fun v7 H7 e7 dv7 => K1 v7 H7 (hFs.trans e7) dv7
      · exact fun _ _ => imm_dV _
      · exact Nat.le_trans (cols_len _ _) (by omega)
      · rw [cols_rowK b4 c2]
        unfold rowsF rowsOf dM
        rw [List.map_map]; rfl
end
end K86
end
section
namespace K86
open PySem PySem.Spec PyProof.Rows L2 DL WM
section
variable {P : Program} {w : World} {K : PySem.W.Frag} {mg : Str → Option Value} {base : Heap}
def sp_init (K : PySem.W.Frag) : Sp := fun vs H Q _ => ∃ (q dx : Addr) (w m : Nat), SlAll K H vs [.val (.ref q), .dat (.int (w : Nat)), .dat (.int (m : Nat))] ∧ H q = some (.ins (He.ga K "Span") dx []) ∧ ∀ H' a, Keep (· = q) H H' → H a = none → SpanAt K H' q dx a w m (fun _ => none) → Q .non H'
theorem mk_Span (T : Top K mg) : MkA P w K mg base 1 (He.ga K "Span") "Span" (sp_init K) := by
  obtain ⟨fd, F⟩ := T.def_ i_Span___init__ rfl
  have sc : FnScope ["self", "wide", "many"] ["self", "wide", "many"] (defScope s_Span___init__) := ⟨rfl, rfl, rfl, by decide +kernel, rfl, by decide +kernel, by decide +kernel⟩
  have scN := sc.nd
  refine mkB (k := 0) F sc T.Span_mk (T.glo j_Span rfl) (fun _ _ _ _ _ _ us hl => match us, hl with | [_, _, _], _ => rfl) (fun vs H Q E h => ?_) (fun cd A outer s H vs Q E hr h => ?_)
  · obtain ⟨q, dx, w', m, h1, _⟩ := h
    exact slAll_len h1
  · obtain ⟨q, dx, w', m, h1, hq, K1⟩ := h
    refine (?_ : RB _ H (rhoS ["self", "wide", "many"] [.val (.ref q), .dat (.int (w' : Nat)), .dat (.int (m : Nat))]) _ _) _ H (env_startS h1)
    have im0 : immR (rhoS ["self", "wide", "many"] [.val (.ref q), .dat (.int (w' : Nat)), .dat (.int (m : Nat))]) := immR_S (immR_cons rfl (immR_cons rfl (immR_cons rfl immR_nil)))
    refine rb_fld (ev_var 0 rfl) hq T.Span_c T.Span_n_wide (by decide) (ed_var 1 rfl) rfl im0 fun H1 v1 k1 t1 hq1 dv1 => ?_
    rw [dp_int dv1] at hq1
    refine rb_fld (ev_var 0 rfl) hq1 T.Span_c T.Span_n_many (Nat.lt_of_le_of_lt (Nat.le_of_eq (by rfl : _ = 1)) (by decide)) (ed_var 2 rfl) rfl im0 fun H2 v2 k2 t2 hq2 dv2 => ?_
    rw [dp_int dv2] at hq2
    refine rb_fldD (ev_var 0 rfl) hq2 T.Span_c T.Span_n_kept (Nat.lt_of_le_of_lt (Nat.le_of_eq (by rfl : _ = 2)) (by decide)) im0 fun H3 a k3 t3 ha ne hd hq3 => rb_nil fun σ4 H4 E4 => ?_
    have e4 := E4.2.2
    have hna : H a = none := by
      cases z : H a with
      | none => rfl
      | some o => have := k2 _ _ (k1 _ _ z ne) ne; rw [ha] at this; cases this
    exact K1 H4 a (((k1.trans k2).trans k3).trans (Keep.of e4)) hna ⟨e4 _ _ hq3, [], e4 _ _ hd, KvOk.nil⟩
abbrev R_basis_by : RelF := fun ds P => ∃ (n m : Nat) (d : PyData) (S : List (List Int)), ds = [.int (n : Int), .int (m : Int), d] ∧ (d = dM S ∨ d = dLM S) ∧ (n ≤ 1000 ∧ m ≤ 60) ∧ (∀ v ∈ S, IsVec n m v) ∧ P = (· = dM (basF n m S))
theorem cal_basis_by (T : Top K mg) : Cal P w K mg base 7 "basis_by" (spR K R_basis_by) := by
  obtain ⟨fd, F⟩ := T.def_ i_basis_by rfl
  have sc : FnScope ["width", "size", "vectors", "span", "vector"] ["width", "size", "vectors"] (defScope s_basis_by) := ⟨rfl, rfl, rfl, by decide +kernel, rfl, by decide +kernel, by decide +kernel⟩
  have scN := sc.nd
  refine calRB (k := 6) F (T.glo j_basis_by rfl) sc (fun _ _ _ _ _ _ us hl => match us, hl with | [_, _, _], _ => rfl) (fun ds P' h => ?_) (fun cd A outer s H E ds P' vs hr h hds => ?_)
  · obtain ⟨n, m, d, S, rfl, _⟩ := h
    rfl
  · obtain ⟨n, m, d, S, rfl, hd, ⟨b1, b2⟩, hS, rfl⟩ := h
    cases hds with
    | cons h1 h2 =>
    cases h2 with
    | cons h2 h3 =>
    obtain ⟨v3, rfl, hv3⟩ := dpA1 h3
    refine (?_ : RB _ H (rhoS ["width", "size", "vectors", "span", "vector"] [.dat (.int (n : Nat)), .dat (.int (m : Nat)), .val v3]) _ _) _ H (env_startS (.cons h1 (.cons h2 (.cons rfl .nil))))
    have im0 : immR (rhoS ["width", "size", "vectors", "span", "vector"] [.dat (.int (n : Nat)), .dat (.int (m : Nat)), .val v3]) := immR_S (immR_cons rfl (immR_cons rfl (immR_cons rfl immR_nil)))
    refine rb_setW 3 (fun σ0 H0 E0 => we_make (mk_Span T) hr (by decide) E0 (eas_cons (ed_var 0 rfl) (eas_cons (ed_var 1 rfl) eas_nil)) fun us H1 q dx e1 hq hdx ne hus => ?_) scN
    have E1 := E0.mono e1
    refine ⟨q, dx, n, m, .cons rfl hus, upd_same, fun H2 a k2 ha hSp => ⟨rfl, H2, .val (.ref q), ?_, ?_, rfl⟩⟩
    rotate_left
    · have s2 : Same H1 H2 := fun b o hb => k2 b o (by rw [upd_ne (fun z => by rw [z, hq] at hb; cases hb), upd_ne (fun z => by rw [z, hdx] at hb; cases hb)]; exact hb) (fun z => by rw [z, hq] at hb; cases hb)
      exact (E1.mono s2).anchor
    have sH : Same H H2 := fun b o hb => by
      have hb1 := E1.2.2 b o hb
      exact k2 b o (by rw [upd_ne (fun z => by rw [z, hq] at hb1; cases hb1), upd_ne (fun z => by rw [z, hdx] at hb1; cases hb1)]; exact hb1) (fun z => by rw [z, hq] at hb1; cases hb1)
    have haH : H a = none := by
      cases z : H a with
      | none => rfl
      | some o =>
        have hb1 := E1.2.2 a o z
        rw [upd_ne (fun z => by rw [z, hq] at hb1; cases hb1), upd_ne (fun z => by rw [z, hdx] at hb1; cases hb1), hb1] at ha
        cases ha
    have h3' := dp_mono sH hv3
    refine rb_for (en := fun v ρ => ρ.set 4 (some (.dat (dV v)))) (js := [4]) (G := SK) (items := S) (enc := fun v => dV v)
      (W := fun H3 i F ρ => ∃ o4 kp, ρ = [some (.dat (.int (n : Nat))), some (.dat (.int (m : Nat))), some (.val v3), some (.val (.ref q)), o4] ∧ immR ρ ∧ Keep (· = a) H3 F ∧ SpanAt K F q dx a n m kp ∧ KOk n m m kp ∧ ∀ f, Sk n m kp 0 f ↔ SpB n m (S.take i) f) rfl PassesOwn.never
      (fun σ5 H5 R E5 kk => ?_) (pg_name (i := 4) scN rfl (by first | exact Or.inl rfl | exact Or.inr rfl))
      (fun H3 e3 => ⟨none, fun _ => none, rfl, im0.set (i := 3) (x := .val (.ref q)) rfl, Keep.of (Same.refl _), hSp.tk (Keep.of (S := fun _ => False) e3) (TK.of e3) id id, ⟨fun c r e => (by cases e), fun c r e => (by cases e)⟩, fun f => ?_⟩)
      (fun H3 i F' H' ρ' e3 ⟨_, _, _, _, k3, _⟩ e4 => ⟨(· = a), k3.trans (Keep.of e4), fun b hb => by obtain ⟨_, kvs, z, _⟩ := hSp; rw [hb, e3 _ _ z]; trivial⟩) (fun i hi ρ' => tg_name) (fun H3 i v F ρ' e3 hv hW => ?_) (fun H3 F ρ' e3 hW => ?_)
    · rcases hd with e | e
      · subst e
        exact im_tup (ed_ev (ev_var 2 rfl) h3') (fun d hd => by obtain ⟨v, _, rfl⟩ := List.mem_map.mp hd; exact imm_dV v) σ5 H5 R E5 fun J H6 e6 wm => kk J H6 e6 fun H7 sk => wm H7 sk.tk
      · subst e
        exact im_lst (ed_ev (ev_var 2 rfl) h3') (fun d hd => by obtain ⟨v, _, rfl⟩ := List.mem_map.mp hd; exact imm_dV v) σ5 H5 R E5 kk
    · refine ⟨fun z => ?_, fun z => ?_⟩
      · exact spP_mem.mp (z.mono fun s ⟨d, _, e⟩ => by cases e)
      · exact (spP_mem.mpr z).mono fun s hs => by simp at hs
    · obtain ⟨o4, kp, rfl, im, k3, hSp3, hK, hf⟩ := hW
      have hvS := hS v (List.mem_of_getElem? hv)
      refine rb_exprW (fun σ6 H6 E6 => we_meth (met_Span_add T) hr (by decide) E6 (ev_var 3 rfl) hSp3.1 rfl (eas_cons (ed_var (d := dV v) 4 rfl) eas_nil) fun us7 H7 e7 hs7 => ?_)
      have E7 := E6.mono e7
      have e67 := E7.2.2
      refine ⟨q, dx, a, n, m, m, kp, v, fun _ => True, .cons rfl hs7, hSp3.tk (Keep.of (S := fun _ => False) e67) (TK.of e67) id id, ⟨b1, by omega, b2, Nat.le_refl _⟩, ⟨hvS, hK⟩, ⟨Lin.tt, trivial, fun _ _ _ => trivial⟩, fun u H8 kp' k8 hSp8 hK8 _ hf8 => ⟨H8, rb_nil fun σ9 H9 E9 => ⟨H8, _, ⟨some (.dat (dV v)), kp', rfl, im.set (i := 4) (x := .dat (dV v)) (imm_dV v), (k3.trans (Keep.of e67)).trans k8, hSp8, hK8, fun f => ?_⟩, E9⟩, ?_⟩⟩
      · rw [take_get hv, ← spG_snoc hf f]
        exact (hf8 f).symm
      · refine E7.tk (k8.tk fun b hb => ?_) (im.set (i := 4) (x := .dat (dV v)) (imm_dV v)) (Same.refl _)
        obtain ⟨_, kvs, z, _⟩ := hSp3
        rw [hb, e67 _ _ z]; trivial
    · obtain ⟨o4, kp, rfl, im, k3, hSp3, hK, hf⟩ := hW
      rw [List.take_length] at hf
      refine rb_retW fun σ6 H6 E6 => we_meth0 (met_Span_rows T) hr (by decide) E6 (ev_var 3 rfl) hSp3.1 rfl fun H7 e7 => ?_
      have e67 := (E6.mono e7).2.2
      refine ⟨q, dx, a, n, m, m, kp, .cons rfl .nil, hSp3.tk (Keep.of (S := fun _ => False) e67) (TK.of e67) id id, ⟨b1, by omega, b2, Nat.le_refl _⟩, hK, fun u H8 e8 dv => ⟨_, rfl, ?_, ?_⟩⟩
      · intro b o hb
        exact e8 _ _ (e67 _ _ (k3 b o (e3 _ _ (sH b o hb)) fun z => by rw [z, haH] at hb; cases hb))
      · rw [← rows_basF hK hf]
        exact dv
end
end K86
end
section
namespace K86
open PySem PySem.Spec PyProof.Rows L2 DL WM
section
variable {P : Program} {w : World} {K : PySem.W.Frag} {mg : Str → Option Value} {base : Heap}
abbrev R_remainder_by : RelF := fun ds P => ∃ (n m : Nat) (B : List (List Int)) (v : List Int), ds = [.int (n : Int), dM B, dV v] ∧ (n ≤ 1000 ∧ m ≤ 100000) ∧ (∀ r ∈ B, IsVec n m r ∧ ∃ c, Lead n m r c) ∧ IsVec n m v ∧ P = (· = dV (remB n B v))
theorem cal_remainder_by (T : Top K mg) : Cal P w K mg base 4 "remainder_by" (spR K R_remainder_by) := by
  obtain ⟨fd, F⟩ := T.def_ i_remainder_by rfl
  have sc : FnScope ["width", "basis", "vector", "row"] ["width", "basis", "vector"] (defScope s_remainder_by) := ⟨rfl, rfl, rfl, by decide +kernel, rfl, by decide +kernel, by decide +kernel⟩
  have scN := sc.nd
  refine calR (k := 3) F (T.glo j_remainder_by rfl) sc (fun _ _ _ _ _ _ us hl => match us, hl with | [_, _, _], _ => rfl) (fun ds P' h => ?_) (fun cd A outer s H E ds P' hr h => ?_)
  · obtain ⟨n, m, B, v, rfl, _⟩ := h
    rfl
  · obtain ⟨n, m, B, v, rfl, ⟨b1, b2⟩, hB, hv, rfl⟩ := h
    refine bd_for (items := B) (enc := fun r => dV r) (en := fun r ρ => ρ.set 3 (some (.dat (dV r)))) (js := [3]) (fun i ρ' => ∃ o, ρ' = [some (.dat (.int (n : Int))), some (.dat (dM B)), some (.dat (dV (remB n (B.take i) v))), o]) rfl PassesOwn.never (it_tup (ed_var 1 rfl)) (pg_name (i := 3) scN rfl (by first | exact Or.inl rfl | exact Or.inr rfl)) ⟨none, rfl⟩ (fun i hi ρ' => tg_name) (fun i r ρ' hr0 hρ => ?_) (fun ρ' hρ => ?_)
    · obtain ⟨o, rfl⟩ := hρ
      obtain ⟨rv, c, rl⟩ := hB r (List.mem_of_getElem? hr0)
      have hpc : optI (pcol r (r.map PyData.int).length) = .int (c : Nat) := by rw [List.length_map, lead_pcol rl rv.1]; rfl
      have xv : IsVec n m (remB n (B.take i) v) := remB_vec (fun s hs => (hB s (List.mem_of_mem_take hs)).1) hv
      have rlen := rv.1
      refine bd_set 2 (ed_call (cal_reduced T) hr (by decide) (ea_cons (ed_var 0 rfl) (ea_cons (ed_var 2 rfl) (ea_cons (ed_eq (ed_call (cal_pivot_column T) hr (by decide) (ea_cons (ed_var 3 rfl) (ea_cons (ed_lenT T.f_len (ed_var 3 rfl)) ea_nil)) ⟨_, _, rfl, ?_, ?_, rfl⟩) hpc) (ea_cons (ed_var 3 rfl) ea_nil)))) ⟨_, _, _, _, m, rfl, ?_, ?_, rfl⟩) (bd_nil ⟨some (.dat (dV r)), ?_⟩) scN
      · simp
      · simp; omega
      · exact ⟨xv, rv, b1, b2⟩
      · exact ⟨rl.1, rl.pos⟩
      · have e : remB n (B.take (i + 1)) v = redV n (remB n (B.take i) v) c r := by
          rw [take_get hr0]
          unfold remB
          rw [List.foldl_append]
          show redV n _ (leadc r) r = _
          rw [lead_c rl rv.1]
        rw [e]; rfl
    · obtain ⟨o, rfl⟩ := hρ
      refine bd_ret (ed_var 2 rfl) ?_
      rw [List.take_length]
abbrev R_is_in : RelF := fun ds P => ∃ (n m : Nat) (B : List (List Int)) (v : List Int), ds = [.int (n : Int), dM B, dV v] ∧ (n ≤ 1000 ∧ m ≤ 100000) ∧ (∀ r ∈ B, IsVec n m r ∧ ∃ c, Lead n m r c) ∧ IsVec n m v ∧ P = (· = .bool (inB n B v))
theorem cal_is_in (T : Top K mg) : Cal P w K mg base 5 "is_in" (spR K R_is_in) := by
  obtain ⟨fd, F⟩ := T.def_ i_is_in rfl
  have sc : FnScope ["width", "basis", "vector"] ["width", "basis", "vector"] (defScope s_is_in) := ⟨rfl, rfl, rfl, by decide +kernel, rfl, by decide +kernel, by decide +kernel⟩
  have scN := sc.nd
  refine calR (k := 4) F (T.glo j_is_in rfl) sc (fun _ _ _ _ _ _ us hl => match us, hl with | [_, _, _], _ => rfl) (fun ds P' h => ?_) (fun cd A outer s H E ds P' hr h => ?_)
  · obtain ⟨n, m, B, v, rfl, _⟩ := h
    rfl
  · obtain ⟨n, m, B, v, rfl, h1, hB, hv, rfl⟩ := h
    refine bd_ret (ed_notV (ed_anyT T.f_any rfl (ed_call (cal_remainder_by T) hr (by decide) (ea_cons (ed_var 0 rfl) (ea_cons (ed_var 1 rfl) (ea_cons (ed_var 2 rfl) ea_nil))) ⟨_, m, _, _, rfl, ?_, ?_, ?_, rfl⟩))) rfl
    · exact h1
    · exact hB
    · exact hv
theorem hb_lead {n m lo : Nat} {B : List (List Int)} (h : HB n m lo B) (hB : ∀ r ∈ B, IsVec n m r) : ∀ r ∈ B, IsVec n m r ∧ ∃ c, Lead n m r c := fun r hr => ⟨hB r hr, by obtain ⟨d, _, h⟩ := h.lead r hr; exact ⟨d, h⟩⟩
abbrev R_is_first_row : RelF := fun ds P => ∃ (n m lo : Nat) (r : List Int) (B : List (List Int)), ds = [.int (n : Int), dV r, dM B] ∧ (n ≤ 1000 ∧ m ≤ 100000) ∧ (∀ s ∈ r :: B, IsVec n m s) ∧ HB n m lo (r :: B) ∧ P = (· = .bool true)
theorem cal_is_first_row (T : Top K mg) : Cal P w K mg base 6 "is_first_row" (spR K R_is_first_row) := by
  obtain ⟨fd, F⟩ := T.def_ i_is_first_row rfl
  have sc : FnScope ["width", "row", "later", "column", "other", "place"] ["width", "row", "later"] (defScope s_is_first_row) := ⟨rfl, rfl, rfl, by decide +kernel, rfl, by decide +kernel, by decide +kernel⟩
  have scN := sc.nd
  refine calR (k := 5) F (T.glo j_is_first_row rfl) sc (fun _ _ _ _ _ _ us hl => match us, hl with | [_, _, _], _ => rfl) (fun ds P' h => ?_) (fun cd A outer s H E ds P' hr h => ?_)
  · obtain ⟨n, m, lo, r, B, rfl, _⟩ := h
    rfl
  · obtain ⟨n, m, lo, r, B, rfl, ⟨b1, b2⟩, hB, ⟨c, hc, rl, ht, hq, hs⟩, rfl⟩ := h
    obtain ⟨hcm, rz, KK, hKK, hpk⟩ := id rl
    have rv := hB r List.mem_cons_self
    have rlen := rv.1
    have rp := rl.pos
    have hpc : optI (pcol r (r.map PyData.int).length) = .int (c : Nat) := by rw [List.length_map, lead_pcol rl rv.1]; rfl
    refine bd_set 3 (ed_eq (ed_call (cal_pivot_column T) hr (by decide) (ea_cons (ed_var 1 rfl) (ea_cons (ed_lenT T.f_len (ed_var 1 rfl)) ea_nil)) ⟨_, _, rfl, ?_, ?_, rfl⟩) hpc) ?_ scN
    · simp
    · simp; omega
    refine bd_skip (td_w (tw_or (td_isN (ed_var 3 rfl)) fun hb => (tw_or1 (td_neI (ed_andM KK (ed_ixV (ed_var 1 rfl) (ed_var 3 rfl) ?_) (ed_sub (ed_ixV (ed_var 1 rfl) (ed_var 3 rfl) ?_) ed_int) ?_) ed_int)))) ?_ ?_
    · omega
    · omega
    · rw [hpk]
    · rw [hpk]; simp [isNone]
    refine bd_for (items := B) (enc := fun r => dV r) (en := fun r ρ => ρ.set 4 (some (.dat (dV r)))) (js := [4]) (fun i ρ' => ∃ o4 o5, ρ' = [some (.dat (.int (n : Int))), some (.dat (dV r)), some (.dat (dM B)), some (.dat (.int (c : Nat))), o4, o5]) rfl PassesOwn.never (it_tup (ed_var 2 rfl)) (pg_name (i := 4) scN rfl (by first | exact Or.inl rfl | exact Or.inr rfl)) ⟨none, none, rfl⟩ (fun i hi ρ' => tg_name) (fun i s ρ' hs0 hρ => ?_) (fun ρ' hρ => ?_)
    · obtain ⟨o4, o5, rfl⟩ := hρ
      have hsm := List.mem_of_getElem? hs0
      have sv := hB s (List.mem_cons_of_mem _ hsm)
      have slen := sv.1
      obtain ⟨d, hd, sl⟩ := ht.lead s hsm
      have hdm := sl.1
      have hqd := hq s hsm d sl
      have hpo : optI (pcol s (s.map PyData.int).length) = .int (d : Nat) := by rw [List.length_map, lead_pcol sl sv.1]; rfl
      refine bd_set 5 (ed_eq (ed_call (cal_pivot_column T) hr (by decide) (ea_cons (ed_var 4 rfl) (ea_cons (ed_lenT T.f_len (ed_var 4 rfl)) ea_nil)) ⟨_, _, rfl, ?_, ?_, rfl⟩) hpo) ?_ scN
      · simp
      · simp; omega
      refine bd_skip (td_w (tw_or (td_le (ed_var 5 rfl) (ed_var 3 rfl)) fun hb => (tw_or1 (td_ge (ed_ixV (ed_var 1 rfl) (ed_var 5 rfl) ?_) (ed_ixV (ed_var 4 rfl) (ed_var 5 rfl) ?_))))) ?_ (bd_nil ⟨_, _, rfl⟩)
      · omega
      · omega
      · simp; omega
    · obtain ⟨o4, o5, rfl⟩ := hρ
      refine bd_ret (ed_call (cal_is_in T) hr (by decide) (ea_cons (ed_var 0 rfl) (ea_cons (ed_var 2 rfl) (ea_cons (ed_call (cal_multiple_by T) hr (by decide) (ea_cons (ed_var 0 rfl) (ea_cons (ed_var 1 rfl) (ea_cons (ed_div (ed_call (cal_modulus_of T) hr (by decide) (ea_cons (ed_var 0 rfl) ea_nil) ⟨_, rfl, ?_, rfl⟩) (ed_ixV (ed_var 1 rfl) (ed_var 3 rfl) ?_) ?_) ea_nil))) ⟨_, _, _, rfl, ?_, ?_, ?_, rfl⟩) ea_nil))) ⟨_, m, _, _, rfl, ?_, ?_, ?_, rfl⟩) ?_
      · omega
      · omega
      · exact wide_div rp (natAbs_lt (Int.le_of_lt rp) (rv.at hcm).2 (Nat.le_refl _)) (by omega) (by omega)
      · omega
      · omega
      · refine ⟨?_, vec_small rv b1⟩
        rw [hpk, pow_div (Nat.le_of_lt hKK)]
        exact natAbs_lt (m := 60000000) (n := 1001) (Int.le_of_lt (pow_pos2 _)) (pow_lt_pow (by omega)) (by omega)
      · exact ⟨b1, b2⟩
      · exact hb_lead ht fun s hs => hB s (List.mem_cons_of_mem _ hs)
      · exact isVec_mul rv.1
      · show _ = _
        congr 1
        refine (inB_iff ht (fun s hs => hB s (List.mem_cons_of_mem _ hs)) (isVec_mul rv.1)).mpr ?_
        exact hs.congr fun i hi => mul_mod rv.1 hi
end
end K86
end
section
namespace K86
open PySem PySem.Spec PyProof.Rows L2 DL WM
section
variable {P : Program} {w : World} {K : PySem.W.Frag} {mg : Str → Option Value} {base : Heap}
theorem hb_drop {n m : Nat} {B : List (List Int)} {lo : Nat} (h : HB n m lo B) (i : Nat) : ∃ lo', HB n m lo' (B.drop i) := by
  induction i generalizing B lo with
  | zero => exact ⟨lo, h⟩
  | succ i ih =>
    cases B with
    | nil => exact ⟨lo, trivial⟩
    | cons r rs => obtain ⟨c, _, _, ht, _⟩ := h; exact ih ht
theorem hb_len {n m : Nat} {B : List (List Int)} {lo : Nat} (h : HB n m lo B) (hl : lo ≤ m) : B.length + lo ≤ m := by
  induction B generalizing lo with
  | nil => simpa using hl
  | cons r rs ih =>
    obtain ⟨c, hc, rl, ht, _⟩ := h
    have := rl.1
    have := ih ht (by omega)
    simp; omega
theorem it_down {X : Cx} {F : Hp} {ρ : Rho} {a b c tg : Expr} {p pos : Pos} {k k' : Nat} (hm : X.mg "range" = none) (ha : ED X F ρ a (.int ((k' : Int) - 1))) (hb : ED X F ρ b (.int (-1))) (hc : ED X F ρ c (.int (-1))) (hk : k' = k ∧ k ≤ 1000000) (hg : Gl X "range" := by rfl) (hs : starEach [a, b, c] X.env = (false, eval a X.env) :: starEach [b, c] X.env := by rfl)
    (hs2 : starEach [b, c] X.env = (false, eval b X.env) :: starEach [c] X.env := by rfl) (hs3 : starEach [c] X.env = (false, eval c X.env) :: starEach [] X.env := by rfl) (hpl : (backTo pos (starEach [b, c] X.env)).any (·.1) = false := by rfl) :
    IT X F ρ tg (.Call (.Name "range" p) [a, b, c] [] pos) ((List.range k).map fun t => .int ((k - 1 - t : Nat) : Int)) := fun σ H R E kk => by
  obtain ⟨rfl, h1⟩ := hk
  have q := it_range3 (tg := tg) (p := p) (n := k') hm ha hb hc (by
    have := RgC.neg (i := (k' : Int) - 1) (j := -1) (by omega) (by omega) (by omega) (by omega)
    have e : ((k' : Int) - 1 - -1).toNat = k' := by omega
    rwa [e] at this) hg hs hs2 hs3 hpl
  have e : ((List.range k').map fun t => PyData.int ((k' : Int) - 1 + (t : Nat) * (-1))) = (List.range k').map fun t => .int ((k' - 1 - t : Nat) : Int) := List.map_congr_left fun t ht => by
    have := List.mem_range.mp ht
    congr 1; omega
  rw [e] at q
  exact q σ H R E kk
abbrev R_is_basis_of : RelF := fun ds P => ∃ (n m : Nat) (B : List (List Int)), ds = [.int (n : Int), .int (m : Int), dM B] ∧ (n ≤ 1000 ∧ m ≤ 1000) ∧ Bas n m B ∧ P = (· = .bool true)
theorem cal_is_basis_of (T : Top K mg) : Cal P w K mg base 7 "is_basis_of" (spR K R_is_basis_of) := by
  obtain ⟨fd, F⟩ := T.def_ i_is_basis_of rfl
  have sc : FnScope ["width", "size", "value", "at", "row"] ["width", "size", "value"] (defScope s_is_basis_of) := ⟨rfl, rfl, rfl, by decide +kernel, rfl, by decide +kernel, by decide +kernel⟩
  have scN := sc.nd
  refine calR (k := 6) F (T.glo j_is_basis_of rfl) sc (fun _ _ _ _ _ _ us hl => match us, hl with | [_, _, _], _ => rfl) (fun ds P' h => ?_) (fun cd A outer s H E ds P' hr h => ?_)
  · obtain ⟨n, m, B, rfl, _⟩ := h
    rfl
  · obtain ⟨n, m, B, rfl, ⟨b1, b2⟩, hB, rfl⟩ := h
    have hlen := hb_len hB.2 (Nat.zero_le _)
    refine bd_skip (td_w (tw_or (td_not (td_val (ed_isi (T := "tuple") T.f_isinstance T.f_tuple (by decide +kernel) (ed_var 2 rfl) kit_tuple_tuple))) fun hb => (tw_or1 (td_not (td_val (ed_allC T.f_all rfl (ed_lc (own := [("row", 4)]) (js := [4]) rfl scN (it_tup (ed_var 2 rfl)) (blkOk_by (N := ["width", "size", "value", "at", "row"]) (sc := (defScope s_is_basis_of)) (by decide +kernel)) (fun _ _ _ _ _ => pg_name (i := 4) scN rfl (by first | exact Or.inl rfl | exact Or.inr rfl)) (by decide) (fun i hi => tg_name) (fun s H C cl fp i hi => (ed_call (cal_is_vector_of T) hr (by decide) (ea_cons (ed_var 0 rfl) (ea_cons (ed_var 1 rfl) (ea_cons (ed_var 4 rfl) ea_nil))) ⟨_, _, _, rfl, ?_, ?_, rfl⟩)) ?_ ?_))))))) ?_ ?_
    · omega
    · rw [(hB.1 _ ‹_›).1]; omega
    · exact fun _ _ => rfl
    · omega
    · have : (B.all fun i => (i.all fun i => decide (0 ≤ i) && decide (i ≤ 2 ^ n - 1)) && decide ((i.length : Int) = (m : Int))) = true := List.all_eq_true.mpr fun x hx => by
        rw [words_ok (hB.1 x hx)]; simp [(hB.1 x hx).1]
      rw [this]; rfl
    refine bd_for (items := List.range B.length) (enc := fun t => .int ((B.length - 1 - t : Nat) : Int)) (en := fun t ρ => ρ.set 3 (some (.dat (.int ((B.length - 1 - t : Nat) : Int))))) (js := [3]) (fun i ρ' => ∃ o3, ρ' = [some (.dat (.int (n : Int))), some (.dat (.int (m : Int))), some (.dat (dM B)), o3, none]) rfl PassesOwn.never (it_down T.f_range (ed_sub (ed_lenT T.f_len (ed_var 2 rfl)) ed_int) (ed_neg ed_int) (ed_neg ed_int) ?_) (pg_name (i := 3) scN rfl (by first | exact Or.inl rfl | exact Or.inr rfl)) ⟨none, rfl⟩ (fun i hi ρ' => tg_name) (fun i t ρ' ht hρ => ?_) (fun ρ' hρ => ?_)
    · exact ⟨by simp, by omega⟩
    · obtain ⟨o3, rfl⟩ := hρ
      have htl : t < B.length := List.mem_range.mp (List.mem_of_getElem? ht)
      generalize hat0 : B.length - 1 - t = j at *
      have hj : j < B.length := by omega
      have hat : PyData.int ((j : Int) + 1) = .int ((j + 1 : Nat) : Int) := by congr 1
      obtain ⟨lo', hl'⟩ := hb_drop hB.2 j
      have ed : B.drop j = B.getD j [] :: B.drop (j + 1) := by
        rw [List.drop_eq_getElem_cons hj, List.getD_eq_getElem?_getD, List.getElem?_eq_getElem hj]; rfl
      rw [ed] at hl'
      have hdr : PyData.tuple ((B.map fun v => dV v).drop (j + 1)) = dM (B.drop (j + 1)) := by simp [List.map_drop]
      refine bd_skip (td_not (td_val (ed_call (cal_is_first_row T) hr (by decide) (ea_cons (ed_var 0 rfl) (ea_cons (ed_ixM (ed_var 2 rfl) (ed_var 3 rfl) ?_) (ea_cons (ed_eq (ed_from (ed_var 2 rfl) (ed_eq (ed_add (ed_var 3 rfl) ed_int) hat)) hdr) ea_nil))) ⟨_, m, lo', _, _, rfl, ?_, ?_, ?_, rfl⟩))) ?_ (bd_nil ⟨_, rfl⟩)
      · exact hj
      · exact ⟨b1, by omega⟩
      · intro s hs
        rw [← ed] at hs
        exact hB.1 s (List.mem_of_mem_drop hs)
      · exact hl'
      · rfl
    · obtain ⟨o3, rfl⟩ := hρ
      exact bd_ret ed_bl rfl
abbrev R_require_basis : RelF := fun ds P => ∃ (n m : Nat) (B : List (List Int)), ds = [.int (n : Int), .int (m : Int), dM B] ∧ (n ≤ 1000 ∧ m ≤ 1000) ∧ Bas n m B ∧ P = (· = .none)
theorem cal_require_basis (T : Top K mg) : Cal P w K mg base 8 "require_basis" (spR K R_require_basis) := by
  obtain ⟨fd, F⟩ := T.def_ i_require_basis rfl
  have sc : FnScope ["width", "size", "basis"] ["width", "size", "basis"] (defScope s_require_basis) := ⟨rfl, rfl, rfl, by decide +kernel, rfl, by decide +kernel, by decide +kernel⟩
  have scN := sc.nd
  refine calR (k := 7) F (T.glo j_require_basis rfl) sc (fun _ _ _ _ _ _ us hl => match us, hl with | [_, _, _], _ => rfl) (fun ds P' h => ?_) (fun cd A outer s H E ds P' hr h => ?_)
  · obtain ⟨n, m, B, rfl, _⟩ := h
    rfl
  · obtain ⟨n, m, B, rfl, h1, hB, rfl⟩ := h
    refine bd_skip (td_not (td_val (ed_call (cal_is_basis_of T) hr (by decide) (ea_cons (ed_var 0 rfl) (ea_cons (ed_var 1 rfl) (ea_cons (ed_var 2 rfl) ea_nil))) ⟨_, _, _, rfl, ?_, ?_, rfl⟩))) rfl (bd_nil rfl)
    · exact h1
    · exact hB
abbrev R_require_width_and_size : RelF := fun ds P => ∃ (n m : Nat), ds = [.int (n : Int), .int (m : Int)] ∧ ((1 ≤ n ∧ n ≤ 16) ∧ 1 ≤ m ∧ m ≤ 40) ∧ P = (· = .none)
theorem cal_require_width_and_size (T : Top K mg) : Cal P w K mg base 5 "require_width_and_size" (spR K R_require_width_and_size) := by
  obtain ⟨fd, F⟩ := T.def_ i_require_width_and_size rfl
  have sc : FnScope ["width", "size"] ["width", "size"] (defScope s_require_width_and_size) := ⟨rfl, rfl, rfl, by decide +kernel, rfl, by decide +kernel, by decide +kernel⟩
  have scN := sc.nd
  refine calR (k := 4) F (T.glo j_require_width_and_size rfl) sc (fun _ _ _ _ _ _ us hl => match us, hl with | [_, _], _ => rfl) (fun ds P' h => ?_) (fun cd A outer s H E ds P' hr h => ?_)
  · obtain ⟨n, m, rfl, _⟩ := h
    rfl
  · obtain ⟨n, m, rfl, ⟨h1, h2⟩, rfl⟩ := h
    refine bd_expr (P' := (· = .none)) (er_of (ed_call (cal_require_width T) hr (by decide) (ea_cons (ed_var 0 rfl) ea_nil) ⟨_, rfl, ?_, rfl⟩) rfl) ?_
    · omega
    refine bd_expr (P' := (· = .none)) (er_of (ed_call (cal_require_size T) hr (by decide) (ea_cons (ed_var 1 rfl) ea_nil) ⟨_, rfl, ?_, rfl⟩) rfl) (bd_nil rfl)
    · omega
theorem cnt_step {n m : Nat} {B : List (List Int)} (hB : ∀ r ∈ B, IsVec n m r ∧ ∃ c, Lead n m r c) : ∀ i, (cntB n (B.take i)).natAbs < 2 ^ (n * i + 1) := fun i => by
  induction i with
  | zero => simp [cntB]
  | succ i ih =>
    cases e : B[i]? with
    | none =>
      have : B.take (i + 1) = B.take i := by rw [List.take_succ, e]; simp
      rw [this]
      exact Nat.lt_of_lt_of_le ih (Nat.pow_le_pow_right (by decide) (by rw [Nat.mul_succ]; omega))
    | some r =>
      obtain ⟨rv, c, rl⟩ := hB r (List.mem_of_getElem? e)
      rw [take_get e]
      have : cntB n (B.take i ++ [r]) = cntB n (B.take i) * (2 ^ n / ix r c) := by
        unfold cntB
        rw [List.foldl_append]
        show _ * (2 ^ n / ix r (leadc r)) = _
        rw [lead_c rl rv.1]
      rw [this, Int.natAbs_mul]
      obtain ⟨_, _, k, hk, hp⟩ := id rl
      rw [hp, pow_div (Nat.le_of_lt hk)]
      have h2 : ((2 : Int) ^ (n - k)).natAbs = 2 ^ (n - k) := by rw [Int.natAbs_pow]; rfl
      rw [h2]
      have h3 : 2 ^ (n - k) ≤ 2 ^ n := Nat.pow_le_pow_right (by decide) (by omega)
      have h4 : 2 ^ (n * (i + 1) + 1) = 2 ^ (n * i + 1) * 2 ^ n := by rw [← Nat.pow_add]; congr 1; rw [Nat.mul_succ]; omega
      rw [h4]
      have hpos : 0 < 2 ^ (n - k) := Nat.pow_pos (by decide)
      exact Nat.lt_of_lt_of_le ((Nat.mul_lt_mul_right hpos).mpr ih) (Nat.mul_le_mul_left _ h3)
abbrev R_count_by : RelF := fun ds P => ∃ (n m : Nat) (B : List (List Int)), ds = [.int (n : Int), dM B] ∧ (n ≤ 1000 ∧ m ≤ 1000 ∧ B.length ≤ 1000) ∧ (∀ r ∈ B, IsVec n m r ∧ ∃ c, Lead n m r c) ∧ P = (· = .int (cntB n B))
theorem cal_count_by (T : Top K mg) : Cal P w K mg base 2 "count_by" (spR K R_count_by) := by
  obtain ⟨fd, F⟩ := T.def_ i_count_by rfl
  have sc : FnScope ["width", "basis", "found", "row"] ["width", "basis"] (defScope s_count_by) := ⟨rfl, rfl, rfl, by decide +kernel, rfl, by decide +kernel, by decide +kernel⟩
  have scN := sc.nd
  refine calR (k := 1) F (T.glo j_count_by rfl) sc (fun _ _ _ _ _ _ us hl => match us, hl with | [_, _], _ => rfl) (fun ds P' h => ?_) (fun cd A outer s H E ds P' hr h => ?_)
  · obtain ⟨n, m, B, rfl, _⟩ := h
    rfl
  · obtain ⟨n, m, B, rfl, ⟨b1, b2, b3⟩, hB, rfl⟩ := h
    refine bd_set 2 ed_int ?_ scN
    refine bd_for (items := B) (enc := fun r => dV r) (en := fun r ρ => ρ.set 3 (some (.dat (dV r)))) (js := [3]) (fun i ρ' => ∃ o, ρ' = [some (.dat (.int (n : Int))), some (.dat (dM B)), some (.dat (.int (cntB n (B.take i)))), o]) rfl PassesOwn.never (it_tup (ed_var 1 rfl)) (pg_name (i := 3) scN rfl (by first | exact Or.inl rfl | exact Or.inr rfl)) ⟨none, rfl⟩ (fun i hi ρ' => tg_name) (fun i r ρ' hr0 hρ => ?_) (fun ρ' hρ => ?_)
    · obtain ⟨o, rfl⟩ := hρ
      obtain ⟨rv, c, rl⟩ := hB r (List.mem_of_getElem? hr0)
      have hil := (List.getElem?_eq_some_iff.mp hr0).1
      have hpc : optI (pcol r (r.map PyData.int).length) = .int (c : Nat) := by rw [List.length_map, lead_pcol rl rv.1]; rfl
      have rlen := rv.1
      have rp := rl.pos
      have hcm := rl.1
      obtain ⟨_, _, k, hk, hpk⟩ := id rl
      refine bd_set 2 (ed_mul (ed_var 2 rfl) (ed_div (ed_call (cal_modulus_of T) hr (by decide) (ea_cons (ed_var 0 rfl) ea_nil) ⟨_, rfl, ?_, rfl⟩) (ed_ixV (ed_var 3 rfl) (ed_eq (ed_call (cal_pivot_column T) hr (by decide) (ea_cons (ed_var 3 rfl) (ea_cons (ed_lenT T.f_len (ed_var 3 rfl)) ea_nil)) ⟨_, _, rfl, ?_, ?_, rfl⟩) hpc) ?_) ?_) ?_) (bd_nil ⟨some (.dat (dV r)), ?_⟩) scN
      · omega
      · simp
      · simp; omega
      · omega
      · exact wide_div rp (natAbs_lt (Int.le_of_lt rp) (rv.at hcm).2 (Nat.le_refl _)) (by omega) (by omega)
      · have h1 := cnt_step hB i
        have h2 : (2 ^ n / ix r c : Int).natAbs < 2 ^ 1001 := by
          rw [hpk, pow_div (Nat.le_of_lt hk)]
          exact natAbs_lt (m := 1001) (n := 1001) (Int.le_of_lt (pow_pos2 _)) (pow_lt_pow (by omega)) (by omega)
        have h3 : n * i + 1 ≤ 1000 * 1000 + 1 := Nat.add_le_add_right (Nat.mul_le_mul b1 (by omega)) 1
        exact mulx_ok (Nat.lt_of_lt_of_le h1 (Nat.pow_le_pow_right (by decide) h3)) h2 (by decide)
      · have e : cntB n (B.take (i + 1)) = cntB n (B.take i) * (2 ^ n / ix r c) := by
          rw [take_get hr0]
          unfold cntB
          rw [List.foldl_append]
          show _ * (2 ^ n / ix r (leadc r)) = _
          rw [lead_c rl rv.1]
        rw [e]; rfl
    · obtain ⟨o, rfl⟩ := hρ
      refine bd_ret (ed_var 2 rfl) ?_
      rw [List.take_length]
abbrev R_basis_of : RelF := fun ds P => ∃ (n m : Nat) (S : List (List Int)), ds = [.int (n : Int), .int (m : Int), dM S] ∧ ((1 ≤ n ∧ n ≤ 16) ∧ 1 ≤ m ∧ m ≤ 40) ∧ S.length ≤ 100000 ∧ (∀ v ∈ S, IsVec n m v) ∧ P = (· = dM (basF n m S))
theorem cal_basis_of (T : Top K mg) : Cal P w K mg base 8 "basis_of" (spR K R_basis_of) := by
  obtain ⟨fd, F⟩ := T.def_ i_basis_of rfl
  have sc : FnScope ["width", "size", "vectors"] ["width", "size", "vectors"] (defScope s_basis_of) := ⟨rfl, rfl, rfl, by decide +kernel, rfl, by decide +kernel, by decide +kernel⟩
  have scN := sc.nd
  refine calR (k := 7) F (T.glo j_basis_of rfl) sc (fun _ _ _ _ _ _ us hl => match us, hl with | [_, _, _], _ => rfl) (fun ds P' h => ?_) (fun cd A outer s H E ds P' hr h => ?_)
  · obtain ⟨n, m, S, rfl, _⟩ := h
    rfl
  · obtain ⟨n, m, S, rfl, h1, h2, h3, rfl⟩ := h
    refine bd_expr (P' := (· = .none)) (er_of (ed_call (cal_require_width_and_size T) hr (by decide) (ea_cons (ed_var 0 rfl) (ea_cons (ed_var 1 rfl) ea_nil)) ⟨_, _, rfl, ?_, rfl⟩) rfl) ?_
    · exact h1
    refine bd_expr (P' := (· = .none)) (er_of (ed_call (cal_require_vectors T) hr (by decide) (ea_cons (ed_var 0 rfl) (ea_cons (ed_var 1 rfl) (ea_cons (ed_var 2 rfl) ea_nil))) ⟨_, _, _, rfl, ?_, ?_, ?_, ?_, rfl⟩) rfl) ?_
    · omega
    · omega
    · exact h2
    · exact h3
    refine bd_ret (ed_call (cal_basis_by T) hr (by decide) (ea_cons (ed_var 0 rfl) (ea_cons (ed_var 1 rfl) (ea_cons (ed_var 2 rfl) ea_nil))) ⟨_, _, _, _, rfl, ?_, ?_, ?_, rfl⟩) rfl
    · exact .inl rfl
    · exact ⟨by omega, by omega⟩
    · exact h3
abbrev R_contains : RelF := fun ds P => ∃ (n m : Nat) (B : List (List Int)) (v : List Int), ds = [.int (n : Int), .int (m : Int), dM B, dV v] ∧ ((1 ≤ n ∧ n ≤ 16) ∧ 1 ≤ m ∧ m ≤ 40) ∧ Bas n m B ∧ IsVec n m v ∧ P = (· = .bool (inB n B v))
theorem cal_contains (T : Top K mg) : Cal P w K mg base 9 "contains" (spR K R_contains) := by
  obtain ⟨fd, F⟩ := T.def_ i_contains rfl
  have sc : FnScope ["width", "size", "basis", "vector"] ["width", "size", "basis", "vector"] (defScope s_contains) := ⟨rfl, rfl, rfl, by decide +kernel, rfl, by decide +kernel, by decide +kernel⟩
  have scN := sc.nd
  refine calR (k := 8) F (T.glo j_contains rfl) sc (fun _ _ _ _ _ _ us hl => match us, hl with | [_, _, _, _], _ => rfl) (fun ds P' h => ?_) (fun cd A outer s H E ds P' hr h => ?_)
  · obtain ⟨n, m, B, v, rfl, _⟩ := h
    rfl
  · obtain ⟨n, m, B, v, rfl, h1, hB, hv, rfl⟩ := h
    have vl := hv.1
    refine bd_expr (P' := (· = .none)) (er_of (ed_call (cal_require_width_and_size T) hr (by decide) (ea_cons (ed_var 0 rfl) (ea_cons (ed_var 1 rfl) ea_nil)) ⟨_, _, rfl, ?_, rfl⟩) rfl) ?_
    · exact h1
    refine bd_expr (P' := (· = .none)) (er_of (ed_call (cal_require_basis T) hr (by decide) (ea_cons (ed_var 0 rfl) (ea_cons (ed_var 1 rfl) (ea_cons (ed_var 2 rfl) ea_nil))) ⟨_, _, _, rfl, ?_, ?_, rfl⟩) rfl) ?_
    · exact ⟨by omega, by omega⟩
    · exact hB
    refine bd_expr (P' := (· = .none)) (er_of (ed_call (cal_require_vector T) hr (by decide) (ea_cons (ed_var 0 rfl) (ea_cons (ed_var 1 rfl) (ea_cons (ed_var 3 rfl) ea_nil))) ⟨_, _, _, rfl, ?_, ?_, ?_, rfl⟩) rfl) ?_
    · omega
    · omega
    · exact hv
    refine bd_ret (ed_call (cal_is_in T) hr (by decide) (ea_cons (ed_var 0 rfl) (ea_cons (ed_var 2 rfl) (ea_cons (ed_var 3 rfl) ea_nil))) ⟨_, m, _, _, rfl, ?_, ?_, ?_, rfl⟩) rfl
    · exact ⟨by omega, by omega⟩
    · exact hb_lead hB.2 hB.1
    · exact hv
abbrev R_unit_of : RelF := fun ds P => ∃ (m p : Nat), ds = [.int (m : Int), .int (p : Int)] ∧ m ≤ 100000 ∧ P = (· = dV (unitV m p))
theorem cal_unit_of (T : Top K mg) : Cal P w K mg base 1 "unit_of" (spR K R_unit_of) := by
  obtain ⟨fd, F⟩ := T.def_ i_unit_of rfl
  have sc : FnScope ["many", "place", "at"] ["many", "place"] (defScope s_unit_of) := ⟨rfl, rfl, rfl, by decide +kernel, rfl, by decide +kernel, by decide +kernel⟩
  have scN := sc.nd
  refine calR (k := 0) F (T.glo j_unit_of rfl) sc (fun _ _ _ _ _ _ us hl => match us, hl with | [_, _], _ => rfl) (fun ds P' h => ?_) (fun cd A outer s H E ds P' hr h => ?_)
  · obtain ⟨m, p, rfl, _⟩ := h
    rfl
  · obtain ⟨m, p, rfl, h1, rfl⟩ := h
    refine bd_ret (ed_tupleL T.f_tuple (ed_lc (own := [("at", 2)]) (js := [2]) rfl scN (it_rng1 T.f_range (ed_var 0 rfl) ?_) (blkOk_by (N := ["many", "place", "at"]) (sc := (defScope s_unit_of)) (by decide +kernel)) (fun _ _ _ _ _ => pg_name (i := 2) scN rfl (by first | exact Or.inl rfl | exact Or.inr rfl)) (by decide) (fun i hi => tg_name) (fun s H C cl fp i hi => (ed_intB T.f_int (ed_eqI (ed_var 2 rfl) (ed_var 1 rfl)))) ?_ ?_)) ?_
    · omega
    · exact fun _ _ => rfl
    · simp; omega
    · show _ = _
      simp [dV, unitV]
end
end K86
end
section
namespace K86
open PySem PySem.Spec PyProof.Rows L2 DL WM
section
variable {P : Program} {w : World} {K : PySem.W.Frag} {mg : Str → Option Value} {base : Heap}
abbrev CoP (n m : Nat) (S : List (List Int)) (v : List Int) : PyData → Prop := fun d => (d = .none ∧ ¬ SpB n m S (ix v)) ∨ ∃ x, d = dV x ∧ IsVec n S.length x ∧ ∀ j, j < m → (2 : Int) ^ n ∣ comb S (ix x) j - ix v j
abbrev R_coordinates_by : RelF := fun ds P => ∃ (n m : Nat) (d : PyData) (S : List (List Int)) (v : List Int), ds = [.int (n : Int), .int (m : Int), d, dV v] ∧ (d = dM S ∨ d = dLM S) ∧ ((1 ≤ n ∧ n ≤ 16) ∧ m ≤ 60 ∧ 1 ≤ S.length ∧ S.length ≤ 60) ∧ (∀ v ∈ S, IsVec n m v) ∧ IsVec n m v ∧ P = CoP n m S v
theorem cal_coordinates_by (T : Top K mg) : Cal P w K mg base 7 "coordinates_by" (spR K R_coordinates_by) := by
  obtain ⟨fd, F⟩ := T.def_ i_coordinates_by rfl
  have sc : FnScope ["width", "size", "vectors", "vector", "many", "span", "number", "one", "rest"] ["width", "size", "vectors", "vector"] (defScope s_coordinates_by) := ⟨rfl, rfl, rfl, by decide +kernel, rfl, by decide +kernel, by decide +kernel⟩
  have scN := sc.nd
  refine calRB (k := 6) F (T.glo j_coordinates_by rfl) sc (fun _ _ _ _ _ _ us hl => match us, hl with | [_, _, _, _], _ => rfl) (fun ds P' h => ?_) (fun cd A outer s H E ds P' vs hr h hds => ?_)
  · obtain ⟨n, m, d, S, v, rfl, _⟩ := h
    rfl
  · obtain ⟨n, m, d, S, v, rfl, hd, ⟨⟨b1, b2⟩, b3, b4, b5⟩, hS, hv, rfl⟩ := h
    cases hds with
    | cons h1 h2 =>
    cases h2 with
    | cons h2 h3 =>
    cases h3 with
    | @cons v3 _ _ _ hv3 h4 =>
    have hvl := hv.1
    have SL : EnvOk K H H (L2.start ["width", "size", "vectors", "vector", "many", "span", "number", "one", "rest"] (_ :: _ :: v3 :: _)) (rhoS ["width", "size", "vectors", "vector", "many", "span", "number", "one", "rest"] [.dat (.int (n : Nat)), .dat (.int (m : Nat)), .val v3, .dat (dV v)]) := env_startS (.cons h1 (.cons h2 (.cons rfl (slAll_ds h4))))
    refine (?_ : RB _ H (rhoS ["width", "size", "vectors", "vector", "many", "span", "number", "one", "rest"] [.dat (.int (n : Nat)), .dat (.int (m : Nat)), .val v3, .dat (dV v)]) _ _) _ H SL
    have im0 : immR (rhoS ["width", "size", "vectors", "vector", "many", "span", "number", "one", "rest"] [.dat (.int (n : Nat)), .dat (.int (m : Nat)), .val v3, .dat (dV v)]) := immR_S (immR_cons rfl (immR_cons rfl (immR_cons rfl (immR_cons (imm_dV v) immR_nil))))
    refine rb_set 4 (d := .int (S.length : Nat)) ?_ ?_ scN
    · rcases hd with e | e
      · subst e; exact ed_eq (ed_lenT T.f_len (ed_ev (ev_var 2 rfl) hv3)) (by rw [List.length_map])
      · subst e; exact ed_eq (ed_lenL T.f_len (ed_ev (ev_var 2 rfl) hv3)) (by rw [List.length_map])
    have im1 := im0.set (i := 4) (x := .dat (.int (S.length : Nat))) rfl
    refine rb_setW 5 (fun σ0 H0 E0 => we_make (mk_Span T) hr (by decide) E0 (eas_cons (ed_var 0 rfl) (eas_cons (ed_var 1 rfl) eas_nil)) fun us H1 q dx e1 hq hdx ne hus => ?_) scN
    have E1 := E0.mono e1
    refine ⟨q, dx, n, m, .cons rfl hus, upd_same, fun H2 a k2 ha hSp => ⟨rfl, H2, .val (.ref q), ?_, ?_, rfl⟩⟩
    rotate_left
    · have s2 : Same H1 H2 := fun b o hb => k2 b o (by rw [upd_ne (fun z => by rw [z, hq] at hb; cases hb), upd_ne (fun z => by rw [z, hdx] at hb; cases hb)]; exact hb) (fun z => by rw [z, hq] at hb; cases hb)
      exact (E1.mono s2).anchor
    have sH : Same H H2 := fun b o hb => by
      have hb1 := E1.2.2 b o hb
      exact k2 b o (by rw [upd_ne (fun z => by rw [z, hq] at hb1; cases hb1), upd_ne (fun z => by rw [z, hdx] at hb1; cases hb1)]; exact hb1) (fun z => by rw [z, hq] at hb1; cases hb1)
    have haH : H a = none := by
      cases z : H a with
      | none => rfl
      | some o =>
        have hb1 := E1.2.2 a o z
        rw [upd_ne (fun z => by rw [z, hq] at hb1; cases hb1), upd_ne (fun z => by rw [z, hdx] at hb1; cases hb1), hb1] at ha
        cases ha
    have h3' := dp_mono sH hv3
    refine rb_for (en := fun (q : List Int × Nat) ρ => (ρ.set 6 (some (.dat (.int (q.2 : Nat))))).set 7 (some (.dat (dV q.1)))) (js := [6, 7]) (G := SK) (items := S.zipIdx) (enc := fun q => .tuple [.int (q.2 : Nat), dV q.1])
      (W := fun H3 i F ρ => ∃ o6 o7 kp, ρ = [some (.dat (.int (n : Nat))), some (.dat (.int (m : Nat))), some (.val v3), some (.dat (dV v)), some (.dat (.int (S.length : Nat))), some (.val (.ref q)), o6, o7, none] ∧ immR ρ ∧ Keep (· = a) H3 F ∧ SpanAt K F q dx a n m kp ∧ KOk n (m + S.length) m kp ∧ (∀ f, Sk n m kp 0 f ↔ SpB n m (S.take i) f) ∧ ∀ c r, kp c = some r → Car n m S r) rfl PassesOwn.never
      (fun σ5 H5 R E5 kk => ?_) (pg_tup rfl (pgs_cons (pg_name (i := 6) scN rfl (by first | exact Or.inl rfl | exact Or.inr rfl)) (pgs_cons (pg_name (i := 7) scN rfl (by first | exact Or.inl rfl | exact Or.inr rfl)) pgs_nil)))
      (fun H3 e3 => ⟨none, none, fun _ => none, rfl, im1.set (i := 5) (x := .val (.ref q)) rfl, Keep.of (Same.refl _), hSp.tk (Keep.of (S := fun _ => False) e3) (TK.of e3) id id, ⟨fun c r e => (by cases e), fun c r e => (by cases e)⟩, fun f => ?_, fun c r e => (by cases e)⟩)
      (fun H3 i F' H' ρ' e3 ⟨_, _, _, _, _, k3, _⟩ e4 => ⟨(· = a), k3.trans (Keep.of e4), fun b hb => by obtain ⟨_, kvs, z, _⟩ := hSp; rw [hb, e3 _ _ z]; trivial⟩) (fun i hi ρ' => tg_two) (fun H3 i sp F ρ' e3 hsp hW => ?_) (fun H3 F ρ' e3 hW => ?_)
    · rcases hd with e | e
      · subst e
        exact im_enumT T.f_enumerate (ed_ev (ev_var 2 rfl) h3') (fun x _ => imm_dV x) (by rfl) (by rfl) σ5 H5 R E5 fun J H6 e6 wm => kk J H6 e6 fun H7 sk => wm H7 sk.tk
      · subst e
        exact im_enumL T.f_enumerate (ed_ev (ev_var 2 rfl) h3') (fun x _ => imm_dV x) (by rfl) (by rfl) σ5 H5 R E5 kk
    · refine ⟨fun z => ?_, fun z => ?_⟩
      · exact spP_mem.mp (z.mono fun s ⟨d, _, e⟩ => by cases e)
      · exact (spP_mem.mpr z).mono fun s hs => by simp at hs
    · obtain ⟨o6, o7, kp, rfl, im, k3, hSp3, hK, hf, hC⟩ := hW
      obtain ⟨s, i2⟩ := sp
      obtain ⟨hs0, hi2⟩ := DL.zipIdx_get hsp
      dsimp only at hs0 hi2
      subst hi2
      have hsS := hS s (List.mem_of_getElem? hs0)
      have hsl := hsS.1
      have hcat : PyData.tuple (s.map PyData.int ++ (unitV S.length i2).map PyData.int) = dV (s ++ unitV S.length i2) := by simp
      have im7 : immR ((([some (.dat (.int (n : Nat))), some (.dat (.int (m : Nat))), some (.val v3), some (.dat (dV v)), some (.dat (.int (S.length : Nat))), some (.val (.ref q)), o6, o7, none] : Rho).set 6 (some (.dat (.int (i2 : Nat))))).set 7 (some (.dat (dV s)))) := (im.set (i := 6) (x := .dat (.int (i2 : Nat))) rfl).set (i := 7) (x := .dat (dV s)) (imm_dV s)
      refine rb_exprW (fun σ6 H6 E6 => we_meth (met_Span_add T) hr (by decide) E6 (ev_var 5 rfl) hSp3.1 rfl (eas_cons (ed_eq (ed_cat (ed_var 7 rfl) (ed_call (cal_unit_of T) hr (by decide) (ea_cons (ed_var 4 rfl) (ea_cons (ed_var 6 rfl) ea_nil)) ⟨_, _, rfl, ?_, rfl⟩) ?_) hcat) eas_nil) fun us7 H7 e7 hs7 => ?_)
      · omega
      · simp [unitV_len]; omega
      have E7 := E6.mono e7
      have e67 := E7.2.2
      have hrow : IsVec n (m + S.length) (s ++ unitV S.length i2) := isVec_append hsS (isVec_unit b1)
      refine ⟨q, dx, a, n, m, m + S.length, kp, s ++ unitV S.length i2, Car n m S, .cons rfl hs7, hSp3.tk (Keep.of (S := fun _ => False) e67) (TK.of e67) id id, ⟨by omega, by omega, b3, by omega⟩, ⟨hrow, hK⟩, ⟨car_lin, car_unit hs0 hsl, hC⟩, fun u H8 kp' k8 hSp8 hK8 hC8 hf8 => ⟨H8, rb_nil fun σ9 H9 E9 => ⟨H8, _, ⟨some (.dat (.int (i2 : Nat))), some (.dat (dV s)), kp', rfl, im7, (k3.trans (Keep.of e67)).trans k8, hSp8, hK8, fun f => ?_, hC8⟩, E9⟩, ?_⟩⟩
      · rw [take_get hs0, ← sp_swap (r := s ++ unitV S.length i2) (fun i hi => ix_append_l (by omega)), ← spG_snoc hf f]
        exact (hf8 f).symm
      · refine E7.tk (k8.tk fun b hb => ?_) im7 (Same.refl _)
        obtain ⟨_, kvs, z, _⟩ := hSp3
        rw [hb, e67 _ _ z]; trivial
    · obtain ⟨o6, o7, kp, rfl, im, k3, hSp3, hK, hf, hC⟩ := hW
      rw [List.length_zipIdx, List.take_length] at hf
      have hHF : Same H F := fun b o hb => k3 b o (e3 _ _ (sH b o hb)) fun z => by rw [z, haH] at hb; cases hb
      have hcat0 : PyData.tuple (v.map PyData.int ++ (List.replicate S.length 0).map PyData.int) = dV (v ++ List.replicate S.length 0) := by simp
      have h0v : IsVec n (m + S.length) (v ++ List.replicate S.length 0) := isVec_append hv isVec_zero
      refine rb_setW 8 (fun σ6 H6 E6 => we_meth (met_Span_remainder T) hr (by decide) E6 (ev_var 5 rfl) hSp3.1 rfl (eas_cons (ed_eq (ed_cat (ed_var 3 rfl) (ed_rep (ed_tup (ea_cons ed_int ea_nil) (by first | decide | simp)) (ed_var 4 rfl) ?_) ?_) hcat0) eas_nil) fun us7 H7 e7 hs7 => ?_) scN
      · exact ⟨b4, by omega⟩
      · simp; omega
      have E7 := E6.mono e7
      have e67 := E7.2.2
      refine ⟨q, dx, a, n, m, m + S.length, kp, v ++ List.replicate S.length 0, .cons rfl hs7, hSp3.tk (Keep.of (S := fun _ => False) e67) (TK.of e67) id id, ⟨by omega, by omega, b3, by omega⟩, ⟨h0v, hK.kept⟩, fun u H8 e8 dv8 => ⟨H8, .dat _, ?_, (E7.mono e8).anchor, dv8⟩⟩
      have hH8 : Same H H8 := (hHF.trans e67).trans e8
      have hcs : ∀ c ∈ colsOf m kp, (kp c).isSome = true := fun c hc => (cols_iff hK c).mpr hc
      have hR : IsVec n (m + S.length) (remK n kp (colsOf m kp) (v ++ List.replicate S.length 0)) := rem_vec (fun c r e => (hK.kept c r e).1) hcs h0v
      have hA : CarV n m S v (remK n kp (colsOf m kp) (v ++ List.replicate S.length 0)) := rem_pred (fun c r e => (hK.kept c r e).1) (fun a c r ha e h => carV_red ha (hK.kept c r e).1 (hK.kept c r e).2.pos (by have := (hK.kept c r e).2.1; omega) h (hC c r e)) hcs h0v (carV_start hvl)
      have hiff := rem_iff (w := n) (by omega) hK h0v
      generalize remK n kp (colsOf m kp) (v ++ List.replicate S.length 0) = rest at *
      have hrl := hR.1
      have htk : PyData.tuple ((rest.map PyData.int).take m) = dV (rest.take m) := by rw [← List.map_take]
      have hdp : PyData.tuple ((rest.map PyData.int).drop m) = dV (rest.drop m) := by rw [← List.map_drop]
      have hany : ((rest.take m).any fun i => i != 0) = false ↔ SpB n m S (ix v) := by
        rw [any_zero, List.length_take, Nat.min_eq_left (by omega)]
        have e1 : (∀ i, i < m → ix (rest.take m) i = 0) ↔ ∀ i, i < m → ix rest i = 0 := ⟨fun h i hi => by rw [← ix_take hi]; exact h i hi, fun h i hi => by rw [ix_take hi]; exact h i hi⟩
        rw [e1, hiff, hf]
        exact ⟨fun h => h.congr fun i hi => dv0 (by rw [ix_append_l (by omega)]; omega), fun h => h.congr fun i hi => dv0 (by rw [ix_append_l (by omega)]; omega)⟩
      cases hb : ((rest.take m).any fun i => i != 0) with
      | true =>
        refine rb_ret (d := .none) (ed_if (td_not (td_val (ed_anyT T.f_any rfl (ed_eq (ed_upto (ed_var 8 rfl) (ed_var 1 rfl)) htk)))) (fun hb' => ?_) (fun hb' => ed_non)) fun v9 H9 e9 dv9 => ⟨_, .inl ⟨rfl, fun z => ?_⟩, hH8.trans e9, dv9⟩
        · rw [hb] at hb'; cases hb'
        · rw [hany.mpr z] at hb; cases hb
      | false =>
        refine rb_ret (d := dV (mulV n (rest.drop m) (-1))) (ed_if (td_not (td_val (ed_anyT T.f_any rfl (ed_eq (ed_upto (ed_var 8 rfl) (ed_var 1 rfl)) htk)))) (fun hb' => (ed_call (cal_multiple_by T) hr (by decide) (ea_cons (ed_var 0 rfl) (ea_cons (ed_eq (ed_from (ed_var 8 rfl) (ed_var 1 rfl)) hdp) (ea_cons (ed_neg ed_int) ea_nil))) ⟨_, _, _, rfl, ?_, ?_, ?_, rfl⟩)) (fun hb' => ?_)) fun v9 H9 e9 dv9 => ⟨_, .inr ⟨_, rfl, isVec_mul (by simp [hrl]), fun j hj => ?_⟩, hH8.trans e9, dv9⟩
        · omega
        · simp; omega
        · refine ⟨Nat.lt_of_lt_of_le (show (1 : Nat) < 2 ^ 1 by decide) (Nat.pow_le_pow_right (by decide) (by decide)), fun x hx => vec_small hR (by omega) x (List.mem_of_mem_drop hx)⟩
        · rw [hb] at hb'; cases hb'
        · have hz : ix rest j = 0 := by
            have h1 := any_zero.mp hb j (by rw [List.length_take]; omega)
            rwa [ix_take hj] at h1
          have h2 := hA j hj
          have h3 : (2 : Int) ^ n ∣ comb S (ix (mulV n (rest.drop m) (-1))) j - comb S (fun i => (-1) * ix rest (m + i) + 0 * ix rest (m + i)) j := comb_congr fun i hi => by
            have := mul_mod (w := n) (f := -1) (v := rest.drop m) (n := S.length) (by simp [hrl]) hi
            rw [ix_drop] at this
            exact dv1 1 this (by grind)
          rw [comb_lin] at h3
          exact dv2 1 1 h3 h2 (by rw [hz]; grind)
abbrev R_coordinates : RelF := fun ds P => ∃ (n m : Nat) (S : List (List Int)) (v : List Int), ds = [.int (n : Int), .int (m : Int), dM S, dV v] ∧ ((1 ≤ n ∧ n ≤ 16) ∧ (1 ≤ m ∧ m ≤ 40) ∧ 1 ≤ S.length ∧ S.length ≤ 60) ∧ (∀ v ∈ S, IsVec n m v) ∧ IsVec n m v ∧ P = CoP n m S v
theorem cal_coordinates (T : Top K mg) : Cal P w K mg base 8 "coordinates" (spR K R_coordinates) := by
  obtain ⟨fd, F⟩ := T.def_ i_coordinates rfl
  have sc : FnScope ["width", "size", "vectors", "vector"] ["width", "size", "vectors", "vector"] (defScope s_coordinates) := ⟨rfl, rfl, rfl, by decide +kernel, rfl, by decide +kernel, by decide +kernel⟩
  have scN := sc.nd
  refine calR (k := 7) F (T.glo j_coordinates rfl) sc (fun _ _ _ _ _ _ us hl => match us, hl with | [_, _, _, _], _ => rfl) (fun ds P' h => ?_) (fun cd A outer s H E ds P' hr h => ?_)
  · obtain ⟨n, m, S, v, rfl, _⟩ := h
    rfl
  · obtain ⟨n, m, S, v, rfl, ⟨h1, h2, h3⟩, h4, h5, rfl⟩ := h
    have hl := h5.1
    refine bd_expr (P' := (· = .none)) (er_of (ed_call (cal_require_width_and_size T) hr (by decide) (ea_cons (ed_var 0 rfl) (ea_cons (ed_var 1 rfl) ea_nil)) ⟨_, _, rfl, ?_, rfl⟩) rfl) ?_
    · exact ⟨h1, h2⟩
    refine bd_expr (P' := (· = .none)) (er_of (ed_call (cal_require_vectors T) hr (by decide) (ea_cons (ed_var 0 rfl) (ea_cons (ed_var 1 rfl) (ea_cons (ed_var 2 rfl) ea_nil))) ⟨_, _, _, rfl, ?_, ?_, ?_, ?_, rfl⟩) rfl) ?_
    · omega
    · omega
    · omega
    · exact h4
    refine bd_expr (P' := (· = .none)) (er_of (ed_call (cal_require_vector T) hr (by decide) (ea_cons (ed_var 0 rfl) (ea_cons (ed_var 1 rfl) (ea_cons (ed_var 3 rfl) ea_nil))) ⟨_, _, _, rfl, ?_, ?_, ?_, rfl⟩) rfl) ?_
    · omega
    · omega
    · exact h5
    refine bd_retR (er_call (cal_coordinates_by T) hr (by decide) (ea_cons (ed_var 0 rfl) (ea_cons (ed_var 1 rfl) (ea_cons (ed_var 2 rfl) (ea_cons (ed_var 3 rfl) ea_nil)))) ⟨_, _, _, _, _, rfl, .inl rfl, ⟨h1, by omega, h3⟩, h4, h5, rfl⟩)
abbrev R_member_count : RelF := fun ds P => ∃ (n m : Nat) (B : List (List Int)), ds = [.int (n : Int), .int (m : Int), dM B] ∧ ((1 ≤ n ∧ n ≤ 16) ∧ 1 ≤ m ∧ m ≤ 40) ∧ Bas n m B ∧ P = (· = .int (cntB n B))
theorem cal_member_count (T : Top K mg) : Cal P w K mg base 9 "member_count" (spR K R_member_count) := by
  obtain ⟨fd, F⟩ := T.def_ i_member_count rfl
  have sc : FnScope ["width", "size", "basis"] ["width", "size", "basis"] (defScope s_member_count) := ⟨rfl, rfl, rfl, by decide +kernel, rfl, by decide +kernel, by decide +kernel⟩
  have scN := sc.nd
  refine calR (k := 8) F (T.glo j_member_count rfl) sc (fun _ _ _ _ _ _ us hl => match us, hl with | [_, _, _], _ => rfl) (fun ds P' h => ?_) (fun cd A outer s H E ds P' hr h => ?_)
  · obtain ⟨n, m, B, rfl, _⟩ := h
    rfl
  · obtain ⟨n, m, B, rfl, h1, hB, rfl⟩ := h
    have hlen := hb_len hB.2 (Nat.zero_le _)
    refine bd_expr (P' := (· = .none)) (er_of (ed_call (cal_require_width_and_size T) hr (by decide) (ea_cons (ed_var 0 rfl) (ea_cons (ed_var 1 rfl) ea_nil)) ⟨_, _, rfl, ?_, rfl⟩) rfl) ?_
    · exact h1
    refine bd_expr (P' := (· = .none)) (er_of (ed_call (cal_require_basis T) hr (by decide) (ea_cons (ed_var 0 rfl) (ea_cons (ed_var 1 rfl) (ea_cons (ed_var 2 rfl) ea_nil))) ⟨_, _, _, rfl, ?_, ?_, rfl⟩) rfl) ?_
    · exact ⟨by omega, by omega⟩
    · exact hB
    refine bd_ret (ed_call (cal_count_by T) hr (by decide) (ea_cons (ed_var 0 rfl) (ea_cons (ed_var 2 rfl) ea_nil)) ⟨_, m, _, rfl, ?_, ?_, rfl⟩) rfl
    · exact ⟨by omega, by omega, by omega⟩
    · exact hb_lead hB.2 hB.1
end
end K86
end
section
namespace K86
open PySem PySem.Spec PyProof.Rows L2 DL WM
def retE : Stmt → Expr
  | .Return (some e) _ => e
  | .Assign _ e _ => e
  | _ => .Constant .none 0 ⟨0, 0, 0, 0⟩
def lcSc : Expr → Scope
  | .ListComp _ _ sc _ => sc
  | _ => defScope (top 0)
def callA (i : Nat) : Expr → Expr
  | .Call _ es _ _ => es.getD i (.Constant .none 0 ⟨0, 0, 0, 0⟩)
  | e => e
section
variable {P : Program} {w : World} {K : PySem.W.Frag} {mg : Str → Option Value} {base : Heap}
theorem immR_of {ρ : Rho} (h : ∀ o ∈ ρ, ∀ x, o = some x → immS x = true) : immR ρ := fun z x hz => h _ (List.mem_of_getElem? hz) x rfl
theorem immS_int (i : Int) : immS (.dat (.int i)) = true := rfl
theorem immS_bool (b : Bool) : immS (.dat (.bool b)) = true := rfl
theorem immS_none : immS (.dat .none) = true := rfl
theorem immS_val (v : V) : immS (.val v) = true := rfl
theorem immS_dV (v : List Int) : immS (.dat (dV v)) = true := imm_dV v
theorem immS_dM (B : List (List Int)) : immS (.dat (dM B)) = true := imm_dM B
theorem imm_dMs (Bs : List (List (List Int))) : imm (dMs Bs) = true := imm_tup fun d hd => by
  obtain ⟨a, _, rfl⟩ := List.mem_map.mp hd
  exact imm_dM a
theorem immS_dMs (Bs : List (List (List Int))) : immS (.dat (dMs Bs)) = true := imm_dMs Bs
abbrev R_joined_basis : RelF := fun ds P => ∃ (n m : Nat) (Bs : List (List (List Int))), ds = [.int (n : Int), .int (m : Int), dMs Bs] ∧ ((1 ≤ n ∧ n ≤ 16) ∧ 1 ≤ m ∧ m ≤ 40) ∧ Bs.length ≤ 100 ∧ (∀ B ∈ Bs, Bas n m B) ∧ P = (· = dM (basF n m Bs.flatten))
theorem flat_len {n m : Nat} {Bs : List (List (List Int))} (h : ∀ B ∈ Bs, B.length ≤ m) : Bs.flatten.length ≤ Bs.length * m := by
  induction Bs with
  | nil => simp
  | cons B Bs ih =>
    have h1 := h B List.mem_cons_self
    have h2 := ih fun C hC => h C (List.mem_cons_of_mem _ hC)
    simp only [List.flatten_cons, List.length_append, List.length_cons, Nat.succ_mul]
    omega
theorem cal_joined_basis (T : Top K mg) : CalS P w K mg base 9 "joined_basis" (spS K 2 R_joined_basis) := by
  obtain ⟨fd, F⟩ := T.def_ i_joined_basis rfl
  have sc : FnScope ["width", "size", "bases", "basis", "row"] ((["width", "size"] : List Str) ++ (["bases"] : List Str)) (defScope s_joined_basis) := ⟨rfl, rfl, rfl, by decide +kernel, rfl, by decide +kernel, by decide +kernel⟩
  have scN := sc.nd
  refine starR (k := 8) F (T.glo j_joined_basis rfl) sc rfl (fun kV doc pm an cdv ct => StX.bind_star2 (B := fun us => bindArgs (PySem.W.fnOf "joined_basis" "joined_basis" d_joined_basis.params d_joined_basis.body d_joined_basis.scope .none kV doc pm an cdv ct) ⟨us, []⟩) (fun _ _ => by first | rfl | kernel_rfl) (fun _ _ _ _ => by first | rfl | kernel_rfl)) (fun cd A outer s H E ds P' hr h => ?_)
  · obtain ⟨n, m, Bs, rfl, h1, h2, hB, rfl⟩ := h
    have hbl : ∀ B ∈ Bs, B.length ≤ m := fun B hb => by have := hb_len (hB B hb).2 (Nat.zero_le _); omega
    have hfl := flat_len (n := n) hbl
    refine bd_expr (P' := (· = .none)) (er_of (ed_call (cal_require_width_and_size T) hr (by decide) (ea_cons (ed_var 0 rfl) (ea_cons (ed_var 1 rfl) ea_nil)) ⟨_, _, rfl, ?_, rfl⟩) rfl) ?_
    · exact h1
    refine bd_for (items := Bs) (enc := fun B => dM B) (en := fun B ρ => ρ.set 3 (some (.dat (dM B)))) (js := [3]) (fun i ρ' => ∃ o, ρ' = [some (.dat (.int (n : Int))), some (.dat (.int (m : Int))), some (.dat (dMs Bs)), o, none]) rfl PassesOwn.never (it_tup (ed_var 2 rfl)) (pg_name (i := 3) scN rfl (by first | exact Or.inl rfl | exact Or.inr rfl)) ⟨none, rfl⟩ (fun i hi ρ' => tg_name) (fun i B ρ' hb hρ => ?_) (fun ρ' hρ => ?_)
    · obtain ⟨o, rfl⟩ := hρ
      refine bd_expr (P' := (· = .none)) (er_of (ed_call (cal_require_basis T) hr (by decide) (ea_cons (ed_var 0 rfl) (ea_cons (ed_var 1 rfl) (ea_cons (ed_var 3 rfl) ea_nil))) ⟨_, _, _, rfl, ?_, ?_, rfl⟩) rfl) (bd_nil ⟨_, rfl⟩)
      · exact ⟨by omega, by omega⟩
      · exact hB B (List.mem_of_getElem? hb)
    · obtain ⟨o, rfl⟩ := hρ
      refine bd_retR (er_call (cal_basis_by T) hr (by decide) (ea_cons (ed_var 0 rfl) (ea_cons (ed_var 1 rfl) (ea_cons (ed_eq (d1 := dLM Bs.flatten) (ed_lc2 (items := Bs) (sub := fun B => B) (enc := fun B => dM B) (enc1 := fun r => dV r) (res := fun _ r => dV r) (own := [("basis", 3), ("row", 4)]) (js := [3]) (js1 := [4]) (vs1 := [4]) rfl scN (it_tup (ed_var 2 rfl))
        (blkOk_by (N := ["width", "size", "bases", "basis", "row"]) (sc := defScope s_joined_basis) (by decide +kernel)) (by decide) (fun _ _ _ _ _ => pg_name (i := 3) scN rfl (by first | exact Or.inl rfl | exact Or.inr rfl)) (by decide) (fun i hi => tg_name) (fun s H C cl fp i hi => imx_tup (ed_var 3 rfl) ?_) (fun _ _ _ _ _ => pg_name (i := 4) scN rfl (by first | exact Or.inl rfl | exact Or.inr rfl)) (by decide) (fun i hi k hk => tg_name) (fun s H C cl fp i hi k hk => (ed_var 4 rfl)) ?_ ?_ ?_) ?_) ea_nil))) ⟨n, m, dLM Bs.flatten, Bs.flatten, rfl, .inr rfl, ⟨by omega, by omega⟩, fun v hv => ?_, rfl⟩)
      · intro d hd; obtain ⟨r, _, rfl⟩ := List.mem_map.mp hd; exact imm_dV r
      · exact fun i hi z x hx => .inl (immR_of (by simp [wipeR, immS_int, immS_bool, immS_none, immS_val, immS_dV, immS_dM, immS_dMs]) z x hx)
      · exact fun _ _ _ _ => imm_dV _
      · rw [← List.map_flatten, List.length_map]
        exact Nat.le_trans hfl (Nat.le_trans (Nat.mul_le_mul h2 h1.2.2) (by decide))
      · rw [← List.map_flatten]
      · obtain ⟨B, hb, hv'⟩ := List.mem_flatten.mp hv
        exact (hB B hb).1 v hv'
abbrev R_columns_of : RelF := fun ds P => ∃ (n : Nat) (S : List (List Int)), ds = [.int (n : Int), dM S] ∧ (∀ v ∈ S, v.length = n) ∧ (n ≤ 1000 ∧ S.length ≤ 1000) ∧ P = (· = dLM (colsM n S))
theorem cal_columns_of (T : Top K mg) : Cal P w K mg base 1 "columns_of" (spR K R_columns_of) := by
  obtain ⟨fd, F⟩ := T.def_ i_columns_of rfl
  have sc : FnScope ["size", "vectors", "at", "vector"] ["size", "vectors"] (defScope s_columns_of) := ⟨rfl, rfl, rfl, by decide +kernel, rfl, by decide +kernel, by decide +kernel⟩
  have scN := sc.nd
  refine calR (k := 0) F (T.glo j_columns_of rfl) sc (fun _ _ _ _ _ _ us hl => match us, hl with | [_, _], _ => rfl) (fun ds P' h => ?_) (fun cd A outer s H E ds P' hr h => ?_)
  · obtain ⟨n, S, rfl, _⟩ := h
    rfl
  · obtain ⟨n, S, rfl, h1, h2, rfl⟩ := h
    refine bd_ret (ed_lc (own := [("at", 2)]) (js := [2]) rfl scN (it_rng1 T.f_range (ed_var 0 rfl) ?_) (blkOk_by (N := ["size", "vectors", "at", "vector"]) (sc := (defScope s_columns_of)) (by decide +kernel)) (fun _ _ _ _ _ => pg_name (i := 2) scN rfl (by first | exact Or.inl rfl | exact Or.inr rfl)) (by decide) (fun i hi => tg_name) (fun s H C cl fp i hi => (ed_tupleL T.f_tuple (ed_lc (own := [("vector", 3)]) (js := [3]) rfl scN (it_tup (ed_var 1 rfl)) (blkOk_by (N := ["size", "vectors", "at", "vector"]) (sc := (relabel (lcSc (retE ((defBody s_columns_of).getD 0 (.Pass ⟨0, 0, 0, 0⟩)))) (envOfC "" (defScope s_columns_of) 0 0 .none))) (by decide +kernel)) (fun _ _ _ _ _ => pg_name (i := 3) scN rfl (by first | exact Or.inl rfl | exact Or.inr rfl)) (by decide) (fun i hi => tg_name) (fun s H C cl fp i hi => (ed_ixV (ed_var 3 rfl) (ed_var 2 rfl) ?_)) ?_ ?_))) ?_ ?_) ?_
    · omega
    · rw [h1 _ ‹_›]; exact List.mem_range.mp ‹_›
    · exact fun _ _ => rfl
    · omega
    · exact fun _ _ => imm_tup fun d hd => by obtain ⟨r, _, rfl⟩ := List.mem_map.mp hd; rfl
    · simp; omega
    · show _ = _
      simp [colsM, dLM, dV]
end
end K86
end
section
namespace K86
open PySem PySem.Spec PyProof.Rows L2 DL WM
section
variable {P : Program} {w : World} {K : PySem.W.Frag} {mg : Str → Option Value} {base : Heap}
abbrev R_whole_basis : RelF := fun ds P => ∃ n : Nat, ds = [.int (n : Int)] ∧ n ≤ 1000 ∧ P = (· = dM ((List.range n).map fun i => unitV n i))
theorem cal_whole_basis (T : Top K mg) : Cal P w K mg base 2 "whole_basis" (spR K R_whole_basis) := by
  obtain ⟨fd, F⟩ := T.def_ i_whole_basis rfl
  have sc : FnScope ["size", "at"] ["size"] (defScope s_whole_basis) := ⟨rfl, rfl, rfl, by decide +kernel, rfl, by decide +kernel, by decide +kernel⟩
  have scN := sc.nd
  refine calR (k := 1) F (T.glo j_whole_basis rfl) sc (fun _ _ _ _ _ _ us hl => match us, hl with | [_], _ => rfl) (fun ds P' h => ?_) (fun cd A outer s H E ds P' hr h => ?_)
  · obtain ⟨n, rfl, _⟩ := h
    rfl
  · obtain ⟨n, rfl, h1, rfl⟩ := h
    refine bd_ret (ed_tupleL T.f_tuple (ed_lc (own := [("at", 1)]) (js := [1]) rfl scN (it_rng1 T.f_range (ed_var 0 rfl) ?_) (blkOk_by (N := ["size", "at"]) (sc := (defScope s_whole_basis)) (by decide +kernel)) (fun _ _ _ _ _ => pg_name (i := 1) scN rfl (by first | exact Or.inl rfl | exact Or.inr rfl)) (by decide) (fun i hi => tg_name) (fun s H C cl fp i hi => (ed_call (cal_unit_of T) hr (by decide) (ea_cons (ed_var 0 rfl) (ea_cons (ed_var 1 rfl) ea_nil)) ⟨_, _, rfl, ?_, rfl⟩)) ?_ ?_)) ?_
    · omega
    · omega
    · exact fun _ _ => imm_dV _
    · simp; omega
    · show _ = _
      simp [dM, dV]
theorem bas_len {n m : Nat} {B : List (List Int)} (h : Bas n m B) : B.length ≤ m := by have := hb_len h.2 (Nat.zero_le _); omega
abbrev R_annihilator_by : RelF := fun ds P => ∃ (n m : Nat) (B : List (List Int)), ds = [.int (n : Int), .int (m : Int), dM B] ∧ ((1 ≤ n ∧ n ≤ 16) ∧ B.length + m ≤ 60) ∧ (∀ v ∈ B, IsVec n m v) ∧ P = (· = dM (annB n m B))
theorem cal_annihilator_by (T : Top K mg) : Cal P w K mg base 8 "annihilator_by" (spR K R_annihilator_by) := by
  obtain ⟨fd, F⟩ := T.def_ i_annihilator_by rfl
  have sc : FnScope ["width", "size", "basis", "many", "rows", "at", "column", "row"] ["width", "size", "basis"] (defScope s_annihilator_by) := ⟨rfl, rfl, rfl, by decide +kernel, rfl, by decide +kernel, by decide +kernel⟩
  have scN := sc.nd
  refine calR (k := 7) F (T.glo j_annihilator_by rfl) sc (fun _ _ _ _ _ _ us hl => match us, hl with | [_, _, _], _ => rfl) (fun ds P' h => ?_) (fun cd A outer s H E ds P' hr h => ?_)
  · obtain ⟨n, m, B, rfl, _⟩ := h
    rfl
  · obtain ⟨n, m, B, rfl, ⟨h1, h2⟩, hB, rfl⟩ := h
    have hms : PyData.int ((B.length : Int) + (m : Int)) = .int ((B.length + m : Nat) : Int) := by congr 1
    refine bd_set 3 (d := .int (B.length : Nat)) (ed_eq (ed_lenT T.f_len (ed_var 2 rfl)) (by rw [List.length_map])) ?_ scN
    have hq : ∀ i ∈ (colsM m B).zipIdx, i.1.length = B.length := fun i hi => by
      have : i.1 ∈ (colsM m B).zipIdx.map (·.1) := List.mem_map.mpr ⟨i, hi, rfl⟩
      rw [List.zipIdx_map_fst] at this
      exact (isVec_cols hB _ this).1
    refine bd_ad 4 (d := dLM (annX m B)) (ad_eq (ad_lc (own := [("at", 5), ("column", 6)]) (js := [5, 6]) rfl scN (it_enumL T.f_enumerate (ed_call (cal_columns_of T) hr (by decide) (ea_cons (ed_var 1 rfl) (ea_cons (ed_var 2 rfl) ea_nil)) ⟨_, _, rfl, ?_, ?_, rfl⟩)) (blkOk_by (N := ["width", "size", "basis", "many", "rows", "at", "column", "row"]) (sc := (defScope s_annihilator_by)) (by decide +kernel)) (fun _ _ _ _ _ => pg_tup rfl (pgs_cons (pg_name (i := 5) scN rfl (by first | exact Or.inl rfl | exact Or.inr rfl)) (pgs_cons (pg_name (i := 6) scN rfl (by first | exact Or.inl rfl | exact Or.inr rfl)) pgs_nil))) (by decide) (fun i hi => tg_two) (fun s H C cl fp i hi => (ed_eq (ed_cat (ed_var 6 rfl) (ed_call (cal_unit_of T) hr (by decide) (ea_cons (ed_var 1 rfl) (ea_cons (ed_var 5 rfl) ea_nil)) ⟨_, _, rfl, ?_, rfl⟩) ?_) (show PyData.tuple _ = dV (i.1 ++ unitV m i.2) by simp))) ?_ ?_) ?_) ?_
    · exact fun v hv => (hB v hv).1
    · omega
    · omega
    · rw [List.length_map, List.length_map, hq _ ‹_›, unitV_len]; omega
    · exact fun _ _ => imm_dV _
    · rw [List.length_zipIdx, colsM_len]; omega
    · simp [annX, dLM]
    have hrows : dLM (annX m B) = dLM (annX m B) := rfl
    have hX := isVec_annX h1.1 hB
    obtain ⟨⟨q1, q2⟩, _⟩ := basF_ok hX
    have ql := bas_len ⟨q1, q2⟩
    refine bd_ret (ed_eq (ed_tupleL T.f_tuple (ed_lcIf (own := [("row", 7)]) (js := [7]) rfl scN (it_tup (ed_call (cal_basis_by T) hr (by decide) (ea_cons (ed_var 0 rfl) (ea_cons (ed_eq (ed_add (ed_var 3 rfl) (ed_var 1 rfl)) (show PyData.int _ = .int ((B.length + m : Nat) : Int) from hms)) (ea_cons (ed_eq (ed_var 4 rfl) (show _ = dLM (annX m B) from hrows)) ea_nil))) ⟨_, _, _, (annX m B), rfl, ?_, ?_, ?_, rfl⟩)) (blkOk_by (N := ["width", "size", "basis", "many", "rows", "at", "column", "row"]) (sc := (defScope s_annihilator_by)) (by decide +kernel)) (fun _ _ _ _ _ => pg_name (i := 7) scN rfl (by first | exact Or.inl rfl | exact Or.inr rfl)) (by decide) (fun i hi => tg_name) (fun s H C cl fp i hi => (td_not (td_val (ed_anyT T.f_any rfl (ed_eq (ed_upto (ed_var 7 rfl) (ed_var 3 rfl)) (show PyData.tuple _ = dV (i.take B.length) by simp)))))) (fun s H C cl fp i hi hp => (ed_eq (ed_from (ed_var 7 rfl) (ed_var 3 rfl)) (show PyData.tuple _ = dV (i.drop B.length) by simp))) ?_ ?_)) ?_) rfl
    · exact .inr rfl
    · exact ⟨by omega, by omega⟩
    · exact hX
    · exact fun _ _ => imm_dV _
    · omega
    · unfold annB zeroAt
      simp [dM]
noncomputable def comB (n m : Nat) (Bs : List (List (List Int))) : List (List Int) := annB n m (Bs.map fun B => annB n m B).flatten
abbrev R_common_by : RelF := fun ds P => ∃ (n m : Nat) (d : PyData) (Bs : List (List (List Int))), ds = [.int (n : Int), .int (m : Int), d] ∧ (d = dMs Bs ∨ d = dLMs Bs) ∧ ((1 ≤ n ∧ n ≤ 16) ∧ m ≤ 10 ∧ Bs.length ≤ 4) ∧ (∀ B ∈ Bs, Bas n m B) ∧ P = (· = dM (comB n m Bs))
theorem cal_common_by (T : Top K mg) : Cal P w K mg base 9 "common_by" (spR K R_common_by) := by
  obtain ⟨fd, F⟩ := T.def_ i_common_by rfl
  have sc : FnScope ["width", "size", "bases", "rows", "basis", "row"] ["width", "size", "bases"] (defScope s_common_by) := ⟨rfl, rfl, rfl, by decide +kernel, rfl, by decide +kernel, by decide +kernel⟩
  have scN := sc.nd
  refine calR (k := 8) F (T.glo j_common_by rfl) sc (fun _ _ _ _ _ _ us hl => match us, hl with | [_, _, _], _ => rfl) (fun ds P' h => ?_) (fun cd A outer s H E ds P' hr h => ?_)
  · obtain ⟨n, m, d, Bs, rfl, _⟩ := h
    rfl
  · obtain ⟨n, m, d, Bs, rfl, hd, ⟨h1, h2, h3⟩, hB, rfl⟩ := h
    have hA : ∀ B ∈ Bs, Bas n m (annB n m B) := fun B hb => (annB_ok h1.1 (hB B hb).1).1
    have hfl := flat_len (n := n) (m := m) (Bs := Bs.map fun B => annB n m B) fun A hA' => by
      obtain ⟨B, hb, rfl⟩ := List.mem_map.mp hA'
      exact bas_len (hA B hb)
    have hfl2 : (Bs.map fun B => annB n m B).flatten.length ≤ 40 := Nat.le_trans hfl (by rw [List.length_map]; exact Nat.le_trans (Nat.mul_le_mul h3 h2) (by decide))
    rcases hd with e | e
    · subst e
      refine bd_ad 3 (d := dLM (Bs.map fun B => annB n m B).flatten) (ad_eq (ad_lc2 (own := [("basis", 4), ("row", 5)]) (js := [4]) (js1 := [5]) (vs1 := [5]) rfl scN (it_tup (ed_var 2 rfl)) (blkOk_by (N := ["width", "size", "bases", "rows", "basis", "row"]) (sc := (defScope s_common_by)) (by decide +kernel)) (by decide) (fun _ _ _ _ _ => pg_name (i := 4) scN rfl (by first | exact Or.inl rfl | exact Or.inr rfl)) (by decide) (fun i hi => tg_name) (fun s H C cl fp i hi => (imx_tup (ed_call (cal_annihilator_by T) hr (by decide) (ea_cons (ed_var 0 rfl) (ea_cons (ed_var 1 rfl) (ea_cons (ed_var 4 rfl) ea_nil))) ⟨_, _, _, rfl, ?_, ?_, rfl⟩) ?_)) (fun _ _ _ _ _ => pg_name (i := 5) scN rfl (by first | exact Or.inl rfl | exact Or.inr rfl)) (by decide) (fun i hi k hk => tg_name) (fun s H C cl fp i hi k hk => (ed_var 5 rfl)) ?_ ?_ ?_) ?_) ?_
      · exact ⟨h1, by have := bas_len (hB _ ‹_›); omega⟩
      · exact (hB _ ‹_›).1
      · intro d hd; obtain ⟨r, _, rfl⟩ := List.mem_map.mp hd; exact imm_dV r
      · exact fun i hi z x hx => match z, hx with
        | 0, hx => .inr ⟨by decide, hx⟩
        | 1, hx => .inr ⟨by decide, hx⟩
        | 2, hx => .inr ⟨by decide, hx⟩
        | 3, hx => .inr ⟨by decide, hx⟩
        | 4, hx => .inl (by cases hx; exact imm_dM _)
        | 5, hx => by cases hx
        | _ + 6, hx => by cases hx
      · exact fun _ _ _ _ => imm_dV _
      · have e : (Bs.map fun i => (annB n m i).map fun r => dV r).flatten = (Bs.map fun B => annB n m B).flatten.map fun r => dV r := by rw [List.map_flatten, List.map_map]; rfl
        rw [e, List.length_map]; omega
      · have e : (Bs.map fun i => (annB n m i).map fun r => dV r).flatten = (Bs.map fun B => annB n m B).flatten.map fun r => dV r := by rw [List.map_flatten, List.map_map]; rfl
        rw [e]
      refine bd_ret (d := dM (comB n m Bs)) (ed_eq (ed_call (cal_annihilator_by T) hr (by decide) (ea_cons (ed_var 0 rfl) (ea_cons (ed_var 1 rfl) (ea_cons (ed_tupleL T.f_tuple (ed_var 3 rfl)) ea_nil))) ⟨_, _, _, rfl, ?_, ?_, rfl⟩) rfl) rfl
      · exact ⟨h1, by omega⟩
      · intro v hv
        obtain ⟨A, hA1, hA2⟩ := List.mem_flatten.mp hv
        obtain ⟨B, hb, rfl⟩ := List.mem_map.mp hA1
        exact (hA B hb).1 v hA2
    · subst e
      refine bd_ad 3 (d := dLM (Bs.map fun B => annB n m B).flatten) (ad_eq (ad_lc2 (own := [("basis", 4), ("row", 5)]) (js := [4]) (js1 := [5]) (vs1 := [5]) rfl scN (it_lst (ed_var 2 rfl)) (blkOk_by (N := ["width", "size", "bases", "rows", "basis", "row"]) (sc := (defScope s_common_by)) (by decide +kernel)) (by decide) (fun _ _ _ _ _ => pg_name (i := 4) scN rfl (by first | exact Or.inl rfl | exact Or.inr rfl)) (by decide) (fun i hi => tg_name) (fun s H C cl fp i hi => (imx_tup (ed_call (cal_annihilator_by T) hr (by decide) (ea_cons (ed_var 0 rfl) (ea_cons (ed_var 1 rfl) (ea_cons (ed_var 4 rfl) ea_nil))) ⟨_, _, _, rfl, ?_, ?_, rfl⟩) ?_)) (fun _ _ _ _ _ => pg_name (i := 5) scN rfl (by first | exact Or.inl rfl | exact Or.inr rfl)) (by decide) (fun i hi k hk => tg_name) (fun s H C cl fp i hi k hk => (ed_var 5 rfl)) ?_ ?_ ?_) ?_) ?_
      · exact ⟨h1, by have := bas_len (hB _ ‹_›); omega⟩
      · exact (hB _ ‹_›).1
      · intro d hd; obtain ⟨r, _, rfl⟩ := List.mem_map.mp hd; exact imm_dV r
      · exact fun i hi z x hx => match z, hx with
        | 0, hx => .inr ⟨by decide, hx⟩
        | 1, hx => .inr ⟨by decide, hx⟩
        | 2, hx => .inr ⟨by decide, hx⟩
        | 3, hx => .inr ⟨by decide, hx⟩
        | 4, hx => .inl (by cases hx; exact imm_dM _)
        | 5, hx => by cases hx
        | _ + 6, hx => by cases hx
      · exact fun _ _ _ _ => imm_dV _
      · have e : (Bs.map fun i => (annB n m i).map fun r => dV r).flatten = (Bs.map fun B => annB n m B).flatten.map fun r => dV r := by rw [List.map_flatten, List.map_map]; rfl
        rw [e, List.length_map]; omega
      · have e : (Bs.map fun i => (annB n m i).map fun r => dV r).flatten = (Bs.map fun B => annB n m B).flatten.map fun r => dV r := by rw [List.map_flatten, List.map_map]; rfl
        rw [e]
      refine bd_ret (d := dM (comB n m Bs)) (ed_eq (ed_call (cal_annihilator_by T) hr (by decide) (ea_cons (ed_var 0 rfl) (ea_cons (ed_var 1 rfl) (ea_cons (ed_tupleL T.f_tuple (ed_var 3 rfl)) ea_nil))) ⟨_, _, _, rfl, ?_, ?_, rfl⟩) rfl) rfl
      · exact ⟨h1, by omega⟩
      · intro v hv
        obtain ⟨A, hA1, hA2⟩ := List.mem_flatten.mp hv
        obtain ⟨B, hb, rfl⟩ := List.mem_map.mp hA1
        exact (hA B hb).1 v hA2
abbrev R_solution_by : RelF := fun ds P => ∃ (n m : Nat) (S : List (List Int)) (v : List Int), ds = [.int (n : Int), .int (m : Int), dM S, dV v] ∧ ((1 ≤ n ∧ n ≤ 16) ∧ 1 ≤ m ∧ m ≤ 40 ∧ S.length ≤ 60) ∧ (∀ v ∈ S, IsVec n m v) ∧ IsVec n S.length v ∧ P = CoP n S.length (colsM m S) v
theorem cal_solution_by (T : Top K mg) : Cal P w K mg base 8 "solution_by" (spR K R_solution_by) := by
  obtain ⟨fd, F⟩ := T.def_ i_solution_by rfl
  have sc : FnScope ["width", "size", "vectors", "values"] ["width", "size", "vectors", "values"] (defScope s_solution_by) := ⟨rfl, rfl, rfl, by decide +kernel, rfl, by decide +kernel, by decide +kernel⟩
  have scN := sc.nd
  refine calR (k := 7) F (T.glo j_solution_by rfl) sc (fun _ _ _ _ _ _ us hl => match us, hl with | [_, _, _, _], _ => rfl) (fun ds P' h => ?_) (fun cd A outer s H E ds P' hr h => ?_)
  · obtain ⟨n, m, S, v, rfl, _⟩ := h
    rfl
  · obtain ⟨n, m, S, v, rfl, ⟨h1, h2, h3, h4⟩, hS, hv, rfl⟩ := h
    refine bd_retR (er_call (cal_coordinates_by T) hr (by decide) (ea_cons (ed_var 0 rfl) (ea_cons (ed_eq (ed_lenT T.f_len (ed_var 2 rfl)) (show _ = PyData.int (S.length : Nat) by rw [List.length_map])) (ea_cons (ed_call (cal_columns_of T) hr (by decide) (ea_cons (ed_var 1 rfl) (ea_cons (ed_var 2 rfl) ea_nil)) ⟨_, _, rfl, ?_, ?_, rfl⟩) (ea_cons (ed_var 3 rfl) ea_nil)))) ⟨_, _, _, colsM m S, _, rfl, .inr rfl, ⟨h1, h4, by rw [colsM_len]; omega, by rw [colsM_len]; omega⟩, isVec_cols hS, hv, rfl⟩)
    · exact fun v hv => (hS v hv).1
    · omega
abbrev R_annihilator : RelF := fun ds P => ∃ (n m : Nat) (B : List (List Int)), ds = [.int (n : Int), .int (m : Int), dM B] ∧ ((1 ≤ n ∧ n ≤ 16) ∧ 1 ≤ m ∧ m ≤ 20) ∧ Bas n m B ∧ P = (· = dM (annB n m B))
theorem cal_annihilator (T : Top K mg) : Cal P w K mg base 9 "annihilator" (spR K R_annihilator) := by
  obtain ⟨fd, F⟩ := T.def_ i_annihilator rfl
  have sc : FnScope ["width", "size", "basis"] ["width", "size", "basis"] (defScope s_annihilator) := ⟨rfl, rfl, rfl, by decide +kernel, rfl, by decide +kernel, by decide +kernel⟩
  have scN := sc.nd
  refine calR (k := 8) F (T.glo j_annihilator rfl) sc (fun _ _ _ _ _ _ us hl => match us, hl with | [_, _, _], _ => rfl) (fun ds P' h => ?_) (fun cd A outer s H E ds P' hr h => ?_)
  · obtain ⟨n, m, B, rfl, _⟩ := h
    rfl
  · obtain ⟨n, m, B, rfl, h1, hB, rfl⟩ := h
    have hlen := bas_len hB
    refine bd_expr (P' := (· = .none)) (er_of (ed_call (cal_require_width_and_size T) hr (by decide) (ea_cons (ed_var 0 rfl) (ea_cons (ed_var 1 rfl) ea_nil)) ⟨_, _, rfl, ?_, rfl⟩) rfl) ?_
    · exact ⟨h1.1, by omega⟩
    refine bd_expr (P' := (· = .none)) (er_of (ed_call (cal_require_basis T) hr (by decide) (ea_cons (ed_var 0 rfl) (ea_cons (ed_var 1 rfl) (ea_cons (ed_var 2 rfl) ea_nil))) ⟨_, _, _, rfl, ?_, ?_, rfl⟩) rfl) ?_
    · exact ⟨by omega, by omega⟩
    · exact hB
    refine bd_ret (ed_call (cal_annihilator_by T) hr (by decide) (ea_cons (ed_var 0 rfl) (ea_cons (ed_var 1 rfl) (ea_cons (ed_var 2 rfl) ea_nil))) ⟨_, _, _, rfl, ?_, ?_, rfl⟩) rfl
    · exact ⟨h1.1, by omega⟩
    · exact hB.1
abbrev R_common_basis : RelF := fun ds P => ∃ (n m : Nat) (Bs : List (List (List Int))), ds = [.int (n : Int), .int (m : Int), dMs Bs] ∧ ((1 ≤ n ∧ n ≤ 16) ∧ 1 ≤ m ∧ m ≤ 10) ∧ Bs.length ≤ 4 ∧ (∀ B ∈ Bs, Bas n m B) ∧ P = (· = dM (comB n m Bs))
theorem cal_common_basis (T : Top K mg) : CalS P w K mg base 10 "common_basis" (spS K 2 R_common_basis) := by
  obtain ⟨fd, F⟩ := T.def_ i_common_basis rfl
  have sc : FnScope ["width", "size", "bases", "basis"] ((["width", "size"] : List Str) ++ (["bases"] : List Str)) (defScope s_common_basis) := ⟨rfl, rfl, rfl, by decide +kernel, rfl, by decide +kernel, by decide +kernel⟩
  have scN := sc.nd
  refine starR (k := 9) F (T.glo j_common_basis rfl) sc rfl (fun kV doc pm an cdv ct => StX.bind_star2 (B := fun us => bindArgs (PySem.W.fnOf "common_basis" "common_basis" d_common_basis.params d_common_basis.body d_common_basis.scope .none kV doc pm an cdv ct) ⟨us, []⟩) (fun _ _ => by first | rfl | kernel_rfl) (fun _ _ _ _ => by first | rfl | kernel_rfl)) (fun cd A outer s H E ds P' hr h => ?_)
  · obtain ⟨n, m, Bs, rfl, h1, h2, hB, rfl⟩ := h
    refine bd_expr (P' := (· = .none)) (er_of (ed_call (cal_require_width_and_size T) hr (by decide) (ea_cons (ed_var 0 rfl) (ea_cons (ed_var 1 rfl) ea_nil)) ⟨_, _, rfl, ?_, rfl⟩) rfl) ?_
    · exact ⟨h1.1, by omega⟩
    refine bd_for (items := Bs) (enc := fun B => dM B) (en := fun B ρ => ρ.set 3 (some (.dat (dM B)))) (js := [3]) (fun i ρ' => ∃ o, ρ' = [some (.dat (.int (n : Int))), some (.dat (.int (m : Int))), some (.dat (dMs Bs)), o]) rfl PassesOwn.never (it_tup (ed_var 2 rfl)) (pg_name (i := 3) scN rfl (by first | exact Or.inl rfl | exact Or.inr rfl)) ⟨none, rfl⟩ (fun i hi ρ' => tg_name) (fun i B ρ' hb hρ => ?_) (fun ρ' hρ => ?_)
    · obtain ⟨o, rfl⟩ := hρ
      refine bd_expr (P' := (· = .none)) (er_of (ed_call (cal_require_basis T) hr (by decide) (ea_cons (ed_var 0 rfl) (ea_cons (ed_var 1 rfl) (ea_cons (ed_var 3 rfl) ea_nil))) ⟨_, _, _, rfl, ?_, ?_, rfl⟩) rfl) (bd_nil ⟨_, rfl⟩)
      · exact ⟨by omega, by omega⟩
      · exact hB B (List.mem_of_getElem? hb)
    · obtain ⟨o, rfl⟩ := hρ
      refine bd_ret (ed_call (cal_common_by T) hr (by decide) (ea_cons (ed_var 0 rfl) (ea_cons (ed_var 1 rfl) (ea_cons (ed_var 2 rfl) ea_nil))) ⟨_, _, _, _, rfl, ?_, ?_, ?_, rfl⟩) rfl
      · exact .inl rfl
      · exact ⟨h1.1, by omega, h2⟩
      · exact hB
abbrev R_solution : RelF := fun ds P => ∃ (n m : Nat) (S : List (List Int)) (v : List Int), ds = [.int (n : Int), .int (m : Int), dM S, dV v] ∧ ((1 ≤ n ∧ n ≤ 16) ∧ 1 ≤ m ∧ m ≤ 40 ∧ S.length ≤ 60) ∧ (∀ v ∈ S, IsVec n m v) ∧ IsVec n S.length v ∧ P = CoP n S.length (colsM m S) v
theorem cal_solution (T : Top K mg) : Cal P w K mg base 9 "solution" (spR K R_solution) := by
  obtain ⟨fd, F⟩ := T.def_ i_solution rfl
  have sc : FnScope ["width", "size", "vectors", "values"] ["width", "size", "vectors", "values"] (defScope s_solution) := ⟨rfl, rfl, rfl, by decide +kernel, rfl, by decide +kernel, by decide +kernel⟩
  have scN := sc.nd
  refine calR (k := 8) F (T.glo j_solution rfl) sc (fun _ _ _ _ _ _ us hl => match us, hl with | [_, _, _, _], _ => rfl) (fun ds P' h => ?_) (fun cd A outer s H E ds P' hr h => ?_)
  · obtain ⟨n, m, S, v, rfl, _⟩ := h
    rfl
  · obtain ⟨n, m, S, v, rfl, ⟨h1, h2, h3, h4⟩, hS, hv, rfl⟩ := h
    have hvl := hv.1
    refine bd_expr (P' := (· = .none)) (er_of (ed_call (cal_require_width_and_size T) hr (by decide) (ea_cons (ed_var 0 rfl) (ea_cons (ed_var 1 rfl) ea_nil)) ⟨_, _, rfl, ?_, rfl⟩) rfl) ?_
    · exact ⟨h1, by omega⟩
    refine bd_expr (P' := (· = .none)) (er_of (ed_call (cal_require_vectors T) hr (by decide) (ea_cons (ed_var 0 rfl) (ea_cons (ed_var 1 rfl) (ea_cons (ed_var 2 rfl) ea_nil))) ⟨_, _, _, rfl, ?_, ?_, ?_, ?_, rfl⟩) rfl) ?_
    · omega
    · omega
    · omega
    · exact hS
    refine bd_skip (td_w (tw_or (td_not (td_val (ed_call (cal_are_words T) hr (by decide) (ea_cons (ed_var 0 rfl) (ea_cons (ed_var 3 rfl) ea_nil)) ⟨_, _, rfl, ?_, ?_, rfl⟩))) fun hb => (tw_or1 (td_neI (ed_lenT T.f_len (ed_var 3 rfl)) (ed_lenT T.f_len (ed_var 2 rfl)))))) ?_ ?_
    · omega
    · omega
    · rw [words_ok hv]; simp [hvl]
    refine bd_retR (er_call (cal_solution_by T) hr (by decide) (ea_cons (ed_var 0 rfl) (ea_cons (ed_var 1 rfl) (ea_cons (ed_var 2 rfl) (ea_cons (ed_var 3 rfl) ea_nil)))) ⟨_, _, _, _, rfl, ⟨h1, h2, h3, h4⟩, hS, hv, rfl⟩)
end
end K86
end
section
namespace DL
open PySem PySem.Spec PyProof.Rows L2 WM
/-! ### expressions whose value is data or an object -/
def EX (X : Cx) (F : Hp) (ρ : Rho) (e : Expr) (r : Slot) : Prop := ∀ σ H Q, EnvOk X.K F H σ ρ → (∀ v H', Same H H' → SlotOk X.K H' v r → Q v H') → wE X e σ H Q
def Stb (p : Hp → V → Prop) : Prop := ∀ H H' v, p H v → Same H H' → p H' v
theorem Stb.ok {p : Hp → V → Prop} {K : PySem.W.Frag} {H : Hp} {v : V} (s : Stb p) (h : p H v) : SlotOk K H v (.pr p) := fun H' e => s H H' v h e
theorem SlotOk.p {p : Hp → V → Prop} {K : PySem.W.Frag} {H : Hp} {v : V} (h : SlotOk K H v (.pr p)) : p H v := h H (Same.refl H)
/-- arguments and result -/
abbrev RelX := List Slot → Slot → Prop
def spX (K : PySem.W.Frag) (R : RelX) : Sp := fun vs H Q _ => ∃ xs r, SlAll K H vs xs ∧ R xs r ∧ ∀ v H', Same H H' → SlotOk K H' v r → Q v H'
structure MetR (P : Program) (w : World) (K : PySem.W.Frag) (mg : Str → Option Value) (base : Heap) (k : Nat) (C : Addr) (m : Str) (sp : Sp) : Prop where
  ex : ∃ f : Addr, Cls K C ∧ Meth K C m f ∧ FnR P w K mg base CX0 k f sp
section
variable {X : Cx} {F : Hp} {ρ : Rho} {a b c e f o : Expr} {es : List Expr} {rest : List Stmt} {pos p2 p apos pos' : Pos} {d d1 d2 d3 : PyData} {ds : List PyData} {xs : List Slot} {y r : Slot} {x m : Str} {v u : V} {C : Addr} {sp : Sp} {k j : Nat} {D : Ends}
theorem ex_ed (h : ED X F ρ e d) : EX X F ρ e (.dat d) := h
theorem ed_ex (h : EX X F ρ e (.dat d)) : ED X F ρ e d := h
theorem ex_eq {r' : Slot} (h : EX X F ρ e r) (q : r = r') : EX X F ρ e r' := q ▸ h
theorem ex_var (i : Nat) (hd : ρ[i]? = some (some r)) (hN : X.N[i]? = some x := by rfl) (hv : Vis X.env.scope x := by first | exact Or.inl rfl | exact Or.inr (Or.inl rfl) | exact Or.inr (Or.inr rfl)) (h1 : (x == ("__debug__" : Str)) = false := by decide) (h2 : (x == ("__classdict__" : Str)) = false := by decide) :
    EX X F ρ (.Name x pos) r := fun σ H Q E k => by
  obtain ⟨v, e1, e2⟩ := E.2.1 i _ hd
  exact ofE (pe_var hN hv h1 h2) ⟨v, e1, k v H (Same.refl H) e2⟩
theorem ex_ev (h : EV X F ρ e v) : EX X F ρ e (.val v) := fun σ H Q E k => h σ H Q E fun H' e1 => k v H' e1 rfl
theorem eas_consX (ha : EX X F ρ a r) (hr : EAS X F ρ es xs) (hs : starEach (a :: es) X.env = (false, eval a X.env) :: starEach es X.env := by rfl) : EAS X F ρ (a :: es) (r :: xs) := fun σ H Q E k => by
  refine ofA (pa_cons pe_w pa_w hs) ?_
  refine ha σ H _ E fun v H1 e1 dv => ?_
  exact hr σ H1 _ (E.mono e1) fun vs H2 e2 dvs => k _ _ (e1.trans e2) (.cons (dv.mono e2) dvs)
theorem rb_setX (i : Nat) (h : EX X F ρ e r) (k : RB X F (ρ.set i (some r)) rest D) (hN : X.N.Nodup) (hi : X.N[i]? = some x := by rfl) (hx : Loc X.env.scope x := by first | exact Or.inl rfl | exact Or.inr rfl)
    (hs : swapsWith e (some (.Name x p)) pos.line X.env = pure false := by rfl) (hf : X.fn x = true ∨ X.env.scope.names.lookup x = some .local := by first | exact .inl rfl | exact .inr rfl) : RB X F ρ (.Assign [.Name x p] e pos :: rest) D :=
  rb_step fun σ H E => ofS (ps_set hN hi hx pe_w hs hf) (h σ H _ E fun v H' e1 dv => k _ _ ((E.mono e1).setS dv))
theorem rb_retX (h : EX X F ρ e r) (q : ∀ v H', Same F H' → SlotOk X.K H' v r → D.rt v H') : RB X F ρ (.Return (some e) pos :: rest) D := fun σ H E => by
  refine wb_cons (ofS (ps_ret pe_w) ?_)
  exact h σ H _ E fun v H' e1 dv => q v H' (E.2.2.trans e1) dv
/-! ### own objects of three fields -/
abbrev MoF (n m : Nat) (v : V) : List (Str × V) := [("own_width", .int (n : Int)), ("own_size", .int (m : Int)), ("own_rows", v)]
def Mo (K : PySem.W.Frag) (C : Addr) (n m : Nat) (B : List (List Int)) : Hp → V → Prop := fun H x => ∃ q dx v, x = .ref q ∧ H q = some (.ins C dx (MoF n m v)) ∧ Dp K H v (dM B)
theorem mo_stb {K : PySem.W.Frag} {n m : Nat} {B : List (List Int)} : Stb (Mo K C n m B) := fun H H' v ⟨q, dx, u, e1, e2, e3⟩ e => ⟨q, dx, u, e1, e _ _ e2, dp_mono e e3⟩
/-- a tuple that holds one such object -/
def T1 (K : PySem.W.Frag) (p : Hp → V → Prop) : Hp → V → Prop := fun H x => ∃ a y, x = .ref a ∧ SqT K H a [y] ∧ p H y
theorem sqT_mono {K : PySem.W.Frag} {H H' : Hp} (e : Same H H') {a : Addr} {xs : List V} (h : SqT K H a xs) : SqT K H' a xs := by
  rcases h with (h | ⟨o, h⟩) | h
  · exact .inl (.inl (e _ _ h))
  · exact .inl (.inr ⟨o, e _ _ h⟩)
  · exact .inr h
theorem t1_stb {K : PySem.W.Frag} {p : Hp → V → Prop} (s : Stb p) : Stb (T1 K p) := fun H H' v ⟨a, y, e1, e2, e3⟩ e => ⟨a, y, e1, sqT_mono e e2, s _ _ _ e3 e⟩
abbrev sMo (K : PySem.W.Frag) (C : Addr) (n m : Nat) (B : List (List Int)) : Slot := .pr (Mo K C n m B)
section
variable {n mm : Nat} {B : List (List Int)}
theorem ed_mow (h : EX X F ρ e (sMo X.K C n mm B)) (c : Cls X.K C) (na : NoAttr X.K C "own_width") (hb : attributeBase e "own_width" X.env (eval e X.env) = eval e X.env := by rfl) : ED X F ρ (.Attribute e "own_width" pos) (.int (n : Int)) := fun σ H Q E k => by
  refine ofE (pe_fld pe_w hb) ?_
  exact h σ H _ E fun v H' e1 hv => by
    obtain ⟨q, dx, u, rfl, e2, e3⟩ := hv.p
    exact ⟨q, C, dx, _, _, rfl, e2, c, na, rfl, k _ _ e1 (.int _)⟩
theorem ed_mos (h : EX X F ρ e (sMo X.K C n mm B)) (c : Cls X.K C) (na : NoAttr X.K C "own_size") (hb : attributeBase e "own_size" X.env (eval e X.env) = eval e X.env := by rfl) : ED X F ρ (.Attribute e "own_size" pos) (.int (mm : Int)) := fun σ H Q E k => by
  refine ofE (pe_fld pe_w hb) ?_
  exact h σ H _ E fun v H' e1 hv => by
    obtain ⟨q, dx, u, rfl, e2, e3⟩ := hv.p
    exact ⟨q, C, dx, _, _, rfl, e2, c, na, rfl, k _ _ e1 (.int _)⟩
theorem ed_mor (h : EX X F ρ e (sMo X.K C n mm B)) (c : Cls X.K C) (na : NoAttr X.K C "own_rows") (hb : attributeBase e "own_rows" X.env (eval e X.env) = eval e X.env := by rfl) : ED X F ρ (.Attribute e "own_rows" pos) (dM B) := fun σ H Q E k => by
  refine ofE (pe_fld pe_w hb) ?_
  exact h σ H _ E fun v H' e1 hv => by
    obtain ⟨q, dx, u, rfl, e2, e3⟩ := hv.p
    exact ⟨q, C, dx, _, _, rfl, e2, c, na, rfl, k _ _ e1 e3⟩
/-- a constant of the class, read through an object -/
theorem ed_mocon {f : Str} {i : Int} {t : Tok} (h : EX X F ρ e (sMo X.K C n mm B)) (c : Cls X.K C) (kc : Con X.K C f (.int i) (.int i t)) (hl : ∀ v, (MoF n mm v).lookup f = none := by intro _; rfl) (hb : attributeBase e f X.env (eval e X.env) = eval e X.env := by rfl) : ED X F ρ (.Attribute e f pos) (.int i) := fun σ H Q E k => by
  refine ofE (pe_con pe_w hb) ?_
  exact h σ H _ E fun v H' e1 hv => by
    obtain ⟨q, dx, u, rfl, e2, e3⟩ := hv.p
    exact ⟨q, C, dx, _, .int i, _, rfl, e2, c, kc, hl _, k _ _ e1 (.int _)⟩
/-- a property -/
theorem ed_moprop {f : Str} {p0 g : Addr} {fd : FuncData} {ps : List Str} {d : PyData} {R : RelX} (h : EX X F ρ e (sMo X.K C n mm B)) (c : Cls X.K C) (hp : PropOf X.K C f p0 g) (FO : FnOk X.prog X.w X.K X.mg X.base CX0 k g fd ps (spX X.K R)) (hR : R [sMo X.K C n mm B] (.dat d)) (hbn : Binds X.K fd ps []) (hr : Room j X.A) (hk : k + 1 ≤ j)
    (hb : attributeBase e f X.env (eval e X.env) = eval e X.env := by rfl) : ED X F ρ (.Attribute e f pos) d := fun σ H Q E k => by
  refine ofE (pe_prop pe_w c hp FO (hr.mono hk) hbn .nil pass0 hb) ?_
  exact h σ H _ E fun v H' e1 hv => by
    obtain ⟨q, dx, u, rfl, e2, e3⟩ := hv.p
    exact ⟨q, dx, _, rfl, e2, [sMo X.K C n mm B], .dat d, .cons hv .nil, hR, fun v H2 e4 dv => k v H2 (e1.trans e4) dv⟩
/-- isinstance(e, C), e such an object -/
theorem ed_isC {cn : Str} (hm : X.mg "isinstance" = none) (ic : C8.InsC X.K C) (hcn : X.mg cn = some (.ref C)) (h : EX X F ρ e (sMo X.K C n mm B)) (hg : Gl X "isinstance" := by rfl) (hgn : Gl X cn := by rfl) (hdb : (cn == ("__debug__" : Str)) = false := by decide)
    (he : starEach [e, .Name cn p2] X.env = (false, eval e X.env) :: starEach [.Name cn p2] X.env := by rfl) (hpl : (backTo pos (starEach [.Name cn p2] X.env)).any (·.1) = false := by rfl) : ED X F ρ (.Call (.Name "isinstance" p) [e, .Name cn p2] [] pos) (.bool true) := fun σ H Q E k => by
  refine ofE (pe_callB (C8.call_isC ic) hg hm (by decide +kernel) (pa_cons pe_w (pa_cons (pe_glob (v := .ref C) hgn hcn rfl hdb) pa_nil) he) (by decide) (by decide) he hpl) ?_
  exact h σ H _ E fun v H' e1 hv => by
    obtain ⟨q, dx, u, rfl, e2, e3⟩ := hv.p
    exact ⟨q, dx, _, rfl, e2, k _ _ e1 (.bl true)⟩
/-- o.m(e, ..) -/
theorem ex_meth {R : RelX} {pl : Sem Bool} (c : MetR X.prog X.w X.K X.mg X.base k C m (spX X.K R)) (hr : Room j X.A) (hk : k ≤ j) (ho : EX X F ρ o (sMo X.K C n mm B)) (ha : EAS X F ρ (e :: es) xs) (hR : R (sMo X.K C n mm B :: xs) r) (hl : ∀ v, (MoF n mm v).lookup m = none := by intro _; rfl)
    (hst : starEach (e :: es) X.env = (false, eval e X.env) :: starEach es X.env := by rfl) (hpl : (backTo pos (starEach es X.env)).any (·.1) = false := by rfl)
    (ht : eval (.Call (.Attribute o m apos) (e :: es) [] pos) X.env = (do
      let ov ← eval o X.env
      standAt apos.atName
      let (f, first) ← holding [ov] (getMethod ov m pl)
      callWith pos f first (backTo pos (starEach (e :: es) X.env)) (backToKw pos (keywordEach [] X.env))) := by rfl) : EX X F ρ (.Call (.Attribute o m apos) (e :: es) [] pos) r := fun σ H Q E k => by
  obtain ⟨f, hc, hm, FO⟩ := c.ex
  refine ofE (pe_methR (pl := pl) pe_w hc hm FO (hr.mono hk) pass0 pa_w hst hpl ht) ?_
  refine ho σ H _ E fun v H1 e1 hv => ?_
  obtain ⟨q, dx, u, rfl, e2, e3⟩ := hv.p
  refine ⟨q, dx, _, rfl, e2, hl _, ?_⟩
  exact ha σ H1 _ (E.mono e1) fun vs H2 e4 dvs => ⟨_, r, .cons (hv.mono e4) dvs, hR, fun v H3 e5 dv => k v H3 ((e1.trans e4).trans e5) dv⟩
/-- o.m() -/
theorem ex_meth0 {R : RelX} {pl : Sem Bool} (c : MetA X.prog X.w X.K X.mg X.base k C m (spX X.K R)) (hr : Room j X.A) (hk : k ≤ j) (ho : EX X F ρ o (sMo X.K C n mm B)) (hR : R [sMo X.K C n mm B] r) (hl : ∀ v, (MoF n mm v).lookup m = none := by intro _; rfl)
    (ht : eval (.Call (.Attribute o m apos) [] [] pos) X.env = (do
      let ov ← eval o X.env
      standAt apos.atName
      let (f, first) ← holding [ov] (getMethod ov m pl)
      callWith pos f first (backTo pos (starEach [] X.env)) (backToKw pos (keywordEach [] X.env))) := by rfl) : EX X F ρ (.Call (.Attribute o m apos) [] [] pos) r := fun σ H Q E k => by
  obtain ⟨f, fd, ps, hc, hm, FO, bd⟩ := c.ex
  refine ofE (pe_meth0 (pl := pl) pe_w hc hm FO (hr.mono hk) bd .nil pass0 ht) ?_
  refine ho σ H _ E fun v H1 e1 hv => ?_
  obtain ⟨q, dx, u, rfl, e2, e3⟩ := hv.p
  exact ⟨q, dx, _, rfl, e2, hl _, _, r, .cons hv .nil, hR, fun v H3 e5 dv => k v H3 (e1.trans e5) dv⟩
/-- == and != -/
theorem ed_moEq {g : Addr} {fd : FuncData} {ps : List Str} {n2 m2 : Nat} {B2 : List (List Int)} {t : Bool} {R : RelX} (FO : FnOk X.prog X.w X.K X.mg X.base CX0 k g fd ps (spX X.K R)) (O : OwnQ X.K C g) (hbn : Binds X.K fd ps []) (hr : Room j X.A) (hk : k + 1 ≤ j) (ha : EX X F ρ a (sMo X.K C n mm B)) (hb : EX X F ρ b (sMo X.K C n2 m2 B2)) (hR : R [sMo X.K C n mm B, sMo X.K C n2 m2 B2] (.dat (.bool t))) :
    ED X F ρ (.Compare a [.Eq] [b] pos) (.bool t) := fun σ H Q E k => by
  refine ofE (pe_cmpR (op_ownEq FO O (hr.mono hk) hbn) pe_w pe_w (nomark _)) ?_
  refine ha σ H _ E fun v H1 e1 hv => ?_
  refine hb σ H1 _ (E.mono e1) fun v2 H2 e2 hv2 => ?_
  have hv' := hv.mono e2
  obtain ⟨q, dx, u, rfl, e3, e4⟩ := hv'.p
  obtain ⟨q2, dx2, u2, rfl, e5, e6⟩ := hv2.p
  exact ⟨q, q2, dx, dx2, _, _, rfl, rfl, e3, e5, _, .dat (.bool t), .cons hv' (.cons hv2 .nil), hR, fun v H3 e7 dv => ⟨t, dp_bl dv, k _ _ ((e1.trans e2).trans e7) (.bl t)⟩⟩
theorem ed_moNe {g : Addr} {fd : FuncData} {ps : List Str} {n2 m2 : Nat} {B2 : List (List Int)} {t : Bool} {R : RelX} (FO : FnOk X.prog X.w X.K X.mg X.base CX0 k g fd ps (spX X.K R)) (O : OwnQ X.K C g) (hbn : Binds X.K fd ps []) (hr : Room j X.A) (hk : k + 1 ≤ j) (ha : EX X F ρ a (sMo X.K C n mm B)) (hb : EX X F ρ b (sMo X.K C n2 m2 B2)) (hR : R [sMo X.K C n mm B, sMo X.K C n2 m2 B2] (.dat (.bool t))) :
    ED X F ρ (.Compare a [.NotEq] [b] pos) (.bool (!t)) := fun σ H Q E k => by
  refine ofE (pe_cmpR (op_ownNe FO O (hr.mono hk) hbn) pe_w pe_w (nomark _)) ?_
  refine ha σ H _ E fun v H1 e1 hv => ?_
  refine hb σ H1 _ (E.mono e1) fun v2 H2 e2 hv2 => ?_
  have hv' := hv.mono e2
  obtain ⟨q, dx, u, rfl, e3, e4⟩ := hv'.p
  obtain ⟨q2, dx2, u2, rfl, e5, e6⟩ := hv2.p
  exact ⟨q, q2, dx, dx2, _, _, rfl, rfl, e3, e5, _, .dat (.bool t), .cons hv' (.cons hv2 .nil), hR, fun v H3 e7 dv => ⟨t, dp_bl dv, k _ _ ((e1.trans e2).trans e7) (.bl (!t))⟩⟩
theorem td_moNe {g : Addr} {fd : FuncData} {ps : List Str} {n2 m2 : Nat} {B2 : List (List Int)} {t : Bool} {R : RelX} (FO : FnOk X.prog X.w X.K X.mg X.base CX0 k g fd ps (spX X.K R)) (O : OwnQ X.K C g) (hbn : Binds X.K fd ps []) (hr : Room j X.A) (hk : k + 1 ≤ j) (ha : EX X F ρ a (sMo X.K C n mm B)) (hb : EX X F ρ b (sMo X.K C n2 m2 B2)) (hR : R [sMo X.K C n mm B, sMo X.K C n2 m2 B2] (.dat (.bool t))) :
    TD X F ρ (.Compare a [.NotEq] [b] pos) (!t) := fun σ H Q E k => by
  refine ofT (pt_cmpR (op_ownNe FO O (hr.mono hk) hbn) pe_w pe_w (nomark _)) ?_
  refine ha σ H _ E fun v H1 e1 hv => ?_
  refine hb σ H1 _ (E.mono e1) fun v2 H2 e2 hv2 => ?_
  have hv' := hv.mono e2
  obtain ⟨q, dx, u, rfl, e3, e4⟩ := hv'.p
  obtain ⟨q2, dx2, u2, rfl, e5, e6⟩ := hv2.p
  exact ⟨q, q2, dx, dx2, _, _, rfl, rfl, e3, e5, _, .dat (.bool t), .cons hv' (.cons hv2 .nil), hR, fun v H3 e7 dv => ⟨t, dp_bl dv, !t, rfl, k _ ((e1.trans e2).trans e7)⟩⟩
end
/-! ### making them -/
/-- the promise of __init__(self, width, size, *vectors), g what it makes of the vectors -/
def spMk (K : PySem.W.Frag) (C : Addr) (g : Nat → Nat → List (List Int) → List (List Int)) (ok : Nat → Nat → List (List Int) → Prop) : Sp := fun vs H Q _ => ∃ (q dx : Addr) (n m : Nat) (S : List (List Int)) (ws : List V), vs = .ref q :: .int (n : Int) :: .int (m : Int) :: ws ∧ DpAll K H ws (S.map fun v => dV v) ∧ H q = some (.ins C dx []) ∧ ok n m S ∧
  ∀ H' v, Keep (· = q) H H' → H' q = some (.ins C dx (MoF n m v)) → Dp K H' v (dM (g n m S)) → Q .non H'
structure MkM (P : Program) (w : World) (K : PySem.W.Frag) (mg : Str → Option Value) (base : Heap) (k : Nat) (C : Addr) (x : Str) (g : Nat → Nat → List (List Int) → List (List Int)) (ok : Nat → Nat → List (List Int) → Prop) : Prop where
  ex : ∃ f : Addr, Mk K C f ∧ mg x = some (.ref C) ∧ FnR P w K mg base CX0 k f (spMk K C g ok)
section
variable {n mm : Nat} {S : List (List Int)} {g : Nat → Nat → List (List Int) → List (List Int)} {ok : Nat → Nat → List (List Int) → Prop}
/-- what the makers' readings ask, met -/
theorem mk_done {K : PySem.W.Frag} {H1 : Hp} {vs ws : List V} {Q : VK} (hvs : vs = .int (n : Int) :: .int (mm : Int) :: ws) (hws : DpAll K H1 ws (S.map fun v => dV v)) (hok : ok n mm S) (k : ∀ v H', Same H1 H' → SlotOk K H' v (sMo K C n mm (g n mm S)) → Q v H') :
    ∀ x dx, H1 x = Option.none → H1 dx = Option.none → dx ≠ x → spMk K C g ok (V.ref x :: vs) (upd (upd H1 dx (.own x)) x (.ins C dx [])) (fun v H2 => v = .non ∧ Q (.ref x) H2) E0 := fun x dx hx hd ne => by
  subst hvs
  have e2 : Same H1 (upd H1 dx (.own x)) := Same.new hd
  have hx' : upd H1 dx (.own x) x = none := by rw [upd_ne (Ne.symm ne)]; exact hx
  have e3 : Same H1 (upd (upd H1 dx (.own x)) x (.ins C dx [])) := e2.trans (Same.new hx')
  refine ⟨x, dx, n, mm, S, ws, rfl, dpA_mono e3 hws, upd_same, hok, fun H' v kp h1 h2 => ⟨rfl, ?_⟩⟩
  have s : Same H1 H' := fun b o hb => kp b o (e3 b o hb) fun z => by rw [z, hx] at hb; cases hb
  exact k _ H' s (mo_stb.ok ⟨x, dx, v, rfl, h1, h2⟩)
/-- C(width, size, ..) -/
theorem ex_mk (c : MkM X.prog X.w X.K X.mg X.base k C x g ok) (hr : Room j X.A) (hk : k + 1 ≤ j) (ha : EA X F ρ (e :: es) (.int (n : Int) :: .int (mm : Int) :: S.map fun v => dV v)) (hok : ok n mm S) (hg : Gl X x := by rfl) (hdb : (x == ("__debug__" : Str)) = false := by decide)
    (he : starEach (e :: es) X.env = (false, eval e X.env) :: starEach es X.env := by rfl) (hpl : (backTo pos (starEach es X.env)).any (·.1) = false := by rfl) : EX X F ρ (.Call (.Name x p) (e :: es) [] pos) (sMo X.K C n mm (g n mm S)) := fun σ H Q E k => by
  obtain ⟨f, M, hm, FR⟩ := c.ex
  refine ofE (StX.pe_makeR M FR (hr.mono hk) hg hm pass0 pa_w hdb he hpl) ?_
  refine ha σ H _ E fun vs H1 e1 dvs => ?_
  obtain ⟨us, ws, rfl, h1, h2⟩ := dpA_split (ds1 := [.int (n : Int), .int (mm : Int)]) dvs
  obtain ⟨v1, v2, rfl, i1, i2⟩ := dpA2 h1
  rw [dp_int i1, dp_int i2]
  exact mk_done rfl h2 hok fun v H' s q => k v H' (e1.trans s) q
/-- C(width, size, *rows) -/
theorem ex_mkS {e2 e3 : Expr} {d : PyData} (c : MkM X.prog X.w X.K X.mg X.base k C x g ok) (hr : Room j X.A) (hk : k + 1 ≤ j) (h1 : ED X F ρ e (.int (n : Int))) (h2 : ED X F ρ e2 (.int (mm : Int))) (h3 : ED X F ρ e3 d) (hd : d = dM S ∨ d = dLM S) (hok : ok n mm S) (hg : Gl X x := by rfl) (hdb : (x == ("__debug__" : Str)) = false := by decide)
    (hs1 : starEach [e, e2, .Starred e3 p2] X.env = (false, eval e X.env) :: starEach [e2, .Starred e3 p2] X.env := by rfl) (hs2 : starEach [e2, .Starred e3 p2] X.env = (false, eval e2 X.env) :: starEach [.Starred e3 p2] X.env := by rfl) (hs3 : starEach [.Starred e3 p2] X.env = (true, eval e3 X.env) :: starEach [] X.env := by rfl)
    (hst : (backTo pos (starEach [e2, .Starred e3 p2] X.env)).any (·.1) = true := by rfl) : EX X F ρ (.Call (.Name x p) [e, e2, .Starred e3 p2] [] pos) (sMo X.K C n mm (g n mm S)) := fun σ H Q E k => by
  obtain ⟨f, M, hm, FR⟩ := c.ex
  refine ofE (pe_makeS M FR (hr.mono hk) hg hm pass0 (pa_cons pe_w (pa_cons pe_w (StX.pa_star pe_w pa_nil hs3) hs2) hs1) hdb hs1 hst) ?_
  refine h1 σ H _ E fun v1 H1 e1 i1 => ?_
  refine h2 σ H1 _ (E.mono e1) fun v2 H2 e2 i2 => ?_
  refine h3 σ H2 _ ((E.mono e1).mono e2) fun v3 H3 e3 i3 => ?_
  rw [dp_int i1, dp_int i2]
  have fin : ∀ ws, DpAll X.K H3 ws (S.map fun v => dV v) → StX.tMakeR C (spMk X.K C g ok) E0 (fun σ H Q => Q (V.int (n : Int) :: V.int (mm : Int) :: (ws ++ [])) H) σ H3 Q := fun ws hw => by
    rw [List.append_nil]
    exact mk_done rfl hw hok fun v H' s q => k v H' (((e1.trans e2).trans e3).trans s) q
  rcases hd with q | q
  · subst q
    obtain ⟨a, xs, rfl, h4, h5⟩ := dp_tup i3
    exact ⟨a, xs, rfl, .inl h4, fin xs h5⟩
  · subst q
    obtain ⟨a, xs, rfl, h4, h5⟩ := dp_lst i3
    exact ⟨a, xs, rfl, .inr h4, fin xs h5⟩
/-- cls(width, size), cls a local that holds the class -/
theorem ex_mkL (i : Nat) {cn : Str} (c : MkM X.prog X.w X.K X.mg X.base k C cn g ok) (hr : Room j X.A) (hk : k + 1 ≤ j) (hi : ρ[i]? = some (some (.val (.ref C)))) (ha : EA X F ρ (e :: es) (.int (n : Int) :: .int (mm : Int) :: S.map fun v => dV v)) (hok : ok n mm S)
    (hN : X.N[i]? = some x := by rfl) (hv : Vis X.env.scope x := by first | exact Or.inl rfl | exact Or.inr (Or.inl rfl) | exact Or.inr (Or.inr rfl)) (hdb : (x == ("__debug__" : Str)) = false := by decide) (hcd : (x == ("__classdict__" : Str)) = false := by decide)
    (he : starEach (e :: es) X.env = (false, eval e X.env) :: starEach es X.env := by rfl) (hpl : (backTo pos (starEach es X.env)).any (·.1) = false := by rfl) : EX X F ρ (.Call (.Name x p) (e :: es) [] pos) (sMo X.K C n mm (g n mm S)) := fun σ H Q E k => by
  obtain ⟨f, M, hm, FR⟩ := c.ex
  refine ofE (pe_makeL i M FR (hr.mono hk) hN hv pass0 pa_w hdb hcd he hpl) ⟨E.atV hi, ?_⟩
  refine ha σ H _ E fun vs H1 e1 dvs => ?_
  obtain ⟨us, ws, rfl, h1, h2⟩ := dpA_split (ds1 := [.int (n : Int), .int (mm : Int)]) dvs
  obtain ⟨v1, v2, rfl, i1, i2⟩ := dpA2 h1
  rw [dp_int i1, dp_int i2]
  exact mk_done rfl h2 hok fun v H' s q => k v H' (e1.trans s) q
/-- cls(width, size, *units) -/
theorem ex_mkLS (i : Nat) {cn : Str} {e2 e3 : Expr} {d : PyData} (c : MkM X.prog X.w X.K X.mg X.base k C cn g ok) (hr : Room j X.A) (hk : k + 1 ≤ j) (hi : ρ[i]? = some (some (.val (.ref C)))) (h1 : ED X F ρ e (.int (n : Int))) (h2 : ED X F ρ e2 (.int (mm : Int))) (h3 : ED X F ρ e3 d) (hd : d = dM S ∨ d = dLM S) (hok : ok n mm S)
    (hN : X.N[i]? = some x := by rfl) (hv : Vis X.env.scope x := by first | exact Or.inl rfl | exact Or.inr (Or.inl rfl) | exact Or.inr (Or.inr rfl)) (hdb : (x == ("__debug__" : Str)) = false := by decide) (hcd : (x == ("__classdict__" : Str)) = false := by decide)
    (hs1 : starEach [e, e2, .Starred e3 p2] X.env = (false, eval e X.env) :: starEach [e2, .Starred e3 p2] X.env := by rfl) (hs2 : starEach [e2, .Starred e3 p2] X.env = (false, eval e2 X.env) :: starEach [.Starred e3 p2] X.env := by rfl) (hs3 : starEach [.Starred e3 p2] X.env = (true, eval e3 X.env) :: starEach [] X.env := by rfl)
    (hst : (backTo pos (starEach [e2, .Starred e3 p2] X.env)).any (·.1) = true := by rfl) : EX X F ρ (.Call (.Name x p) [e, e2, .Starred e3 p2] [] pos) (sMo X.K C n mm (g n mm S)) := fun σ H Q E k => by
  obtain ⟨f, M, hm, FR⟩ := c.ex
  refine ofE (pe_makeLS i M FR (hr.mono hk) hN hv pass0 (pa_cons pe_w (pa_cons pe_w (StX.pa_star pe_w pa_nil hs3) hs2) hs1) hdb hcd hs1 hst) ⟨E.atV hi, ?_⟩
  refine h1 σ H _ E fun v1 H1 e1 i1 => ?_
  refine h2 σ H1 _ (E.mono e1) fun v2 H2 e2 i2 => ?_
  refine h3 σ H2 _ ((E.mono e1).mono e2) fun v3 H3 e3 i3 => ?_
  rw [dp_int i1, dp_int i2]
  have fin : ∀ ws, DpAll X.K H3 ws (S.map fun v => dV v) → StX.tMakeR C (spMk X.K C g ok) E0 (fun σ H Q => Q (V.int (n : Int) :: V.int (mm : Int) :: (ws ++ [])) H) σ H3 Q := fun ws hw => by
    rw [List.append_nil]
    exact mk_done rfl hw hok fun v H' s q => k v H' (((e1.trans e2).trans e3).trans s) q
  rcases hd with q | q
  · subst q
    obtain ⟨a, xs, rfl, h4, h5⟩ := dp_tup i3
    exact ⟨a, xs, rfl, .inl h4, fin xs h5⟩
  · subst q
    obtain ⟨a, xs, rfl, h4, h5⟩ := dp_lst i3
    exact ⟨a, xs, rfl, .inr h4, fin xs h5⟩
/-- Module.zero(width, size): a class method, its class told first -/
theorem ex_cmeth {R : RelX} {cn : Str} {p0 f0 : Addr} {pl : Sem Bool} (r0 : ClX.CRead X.K C (.type "type")) (c : ClX.CMet X.K C (.type "type") m p0 f0) (FR : FnR X.prog X.w X.K X.mg X.base CX0 k f0 (spX X.K R)) (hr : Room j X.A) (hk : k ≤ j) (hcn : X.mg cn = some (.ref C)) (ha : EAS X F ρ (e :: es) xs) (hR : R (.val (.ref C) :: xs) r)
    (hgn : Gl X cn := by rfl) (hdb : (cn == ("__debug__" : Str)) = false := by decide)
    (hst : starEach (e :: es) X.env = (false, eval e X.env) :: starEach es X.env := by rfl) (hpl : (backTo pos (starEach es X.env)).any (·.1) = false := by rfl)
    (ht : eval (.Call (.Attribute (.Name cn p2) m apos) (e :: es) [] pos) X.env = (do
      let ov ← eval (.Name cn p2) X.env
      standAt apos.atName
      let (f, first) ← holding [ov] (getMethod ov m pl)
      callWith pos f first (backTo pos (starEach (e :: es) X.env)) (backToKw pos (keywordEach [] X.env))) := by rfl) : EX X F ρ (.Call (.Attribute (.Name cn p2) m apos) (e :: es) [] pos) r := fun σ H Q E k => by
  refine ofE (ClX.pe_cmeth (pl := pl) (pe_glob (v := .ref C) hgn hcn rfl hdb) r0 c FR (hr.mono hk) pass0 pa_w hst hpl ht) ?_
  refine ⟨rfl, ?_⟩
  exact ha σ H _ E fun vs H1 e1 dvs => ⟨_, r, SlAll.cons (x := .val (.ref C)) rfl dvs, hR, fun v H' e2 dv => k v H' (e1.trans e2) dv⟩
end
end
/-- a def with a star parameter, by its body -/
theorem fnS {P : Program} {w : World} {K : PySem.W.Frag} {mg : Str → Option Value} {base : Heap} {x qual pv : Str} {params : Arguments} {body : List Stmt} {scope : Scope} {f : Addr} {fd : FuncData} {N ps : List Str} {k : Nat} {sp : Sp} (F : FunD K x qual params body scope [] [] f fd) (S : FnScope N (ps ++ [pv]) scope)
    (bd : ∀ (kV doc pm : Value) (an : Option Addr) (cdv ct : Value) (us rest : List Value), us.length = ps.length → bindArgs (PySem.W.fnOf x qual params body scope .none kV doc pm an cdv ct) ⟨us ++ rest, []⟩ = (newTuple rest >>= fun t => pure (ps.zip us ++ [(pv, t)])))
    (hb : ∀ (cd : Value) (A : Around) (outer : List Env) (s : Shared) (H : Hp) (vs : List V) (Q : VK) (E : XK), Room k (A.deeper (envOfC qual scope s.heap.objs.size f cd)) → sp vs H Q E → wB (cxD P w K mg base N qual scope f cd A outer s H E) body { nx := fun _ H' => Q .non H', rt := Q } (L2.start N vs) H) :
    FnR P w K mg base CX0 (k + 1) f (fun vs H Q E => ∃ ws rest, vs = ws ++ rest ∧ ws.length = ps.length ∧ rest.length ≤ sizeLine ∧ ∀ p, H p = Option.none → sp (ws ++ [V.ref p]) (upd H p (.tup rest)) Q E) := by
  obtain ⟨oc, od, dV, kV, doc, pm, an, cdv, ct, osl, e, lk, hcd, hD, _⟩ := F.ex
  rcases hD with ⟨_, rfl⟩ | ⟨z, _⟩
  · subst e
    exact StX.fn_star (sp := sp) lk hcd S StX.cxUp_none (bd kV doc pm an cdv ct) fun A outer s H vs Q E hr h => ⟨_, PSs.nox pb_w, hb cdv A outer s H vs Q E hr h⟩
  · exact absurd rfl z
theorem bind_star3 {B : List Value → Sem (List (Str × Value))} {p1 p2 p3 pv : Str} (h0 : ∀ a b c, B [a, b, c] = (newTuple [] >>= fun t => pure [(p1, a), (p2, b), (p3, c), (pv, t)])) (h1 : ∀ a b c r rs, B (a :: b :: c :: r :: rs) = (newTuple (r :: rs) >>= fun t => pure [(p1, a), (p2, b), (p3, c), (pv, t)])) :
    ∀ us rest : List Value, us.length = [p1, p2, p3].length → B (us ++ rest) = (newTuple rest >>= fun t => pure ([p1, p2, p3].zip us ++ [(pv, t)]))
  | [a, b, c], [], _ => h0 a b c
  | [a, b, c], r :: rs, _ => h1 a b c r rs
/-- a plain def's promise by its arguments' places -/
theorem fnR_of {P : Program} {w : World} {K : PySem.W.Frag} {mg : Str → Option Value} {base : Heap} {k : Nat} {f : Addr} {fd : FuncData} {ps : List Str} {sp : Sp} (F : FnOk P w K mg base CX0 k f fd ps sp) (bd : Binds K fd ps []) : FnR P w K mg base CX0 k f sp := fun A outer s H us vs Q E hr e0 r h => by
  have hl : us.length = ps.length := by rw [← r.length]; exact F.len _ _ _ _ h
  have hb := bd s us (e0.mod.kin.keeps fun b o e => (e0.bs b o e).1) (by simpa using hl)
  refine F.run A outer s H ⟨us, []⟩ us vs Q E hr e0 (by simpa using hb) r h
end DL
end
section
namespace DL
open PySem PySem.Spec PyProof.Rows L2 WM
section
variable {X : Cx} {F : Hp} {ρ : Rho} {a b c e f o tg iter : Expr} {es : List Expr} {rest sts : List Stmt} {pos p2 p apos pos' tpos : Pos} {d d1 d2 d3 : PyData} {ds : List PyData} {xs : List Slot} {y r : Slot} {x m : Str} {v u : V} {C : Addr} {sp : Sp} {k j : Nat} {D : Ends}
theorem rb_exprD (h : ED X F ρ e d) (k : RB X F ρ rest D) (hs : swapsWith e none pos.line X.env = pure false := by rfl) : RB X F ρ (.Expr e pos :: rest) D :=
  rb_exprW (fun σ H E => h σ H _ E fun v H' e1 _ => ⟨F, k, E.mono e1⟩) hs
/-- for over a tuple that holds one object -/
theorem rb_for1 {pr : Hp → V → Prop} (j : Nat) (W : Hp → Hp → Rho → Prop) (hc : X.calm = true) (hp : PassesOwn (model X.prog X.w) X.A X.env X.xe) (hi : EX X F ρ iter (.pr (T1 X.K pr))) (st : Stb pr)
    (tk : ∀ H1 F2 ρ2 H2, Same F H1 → W H1 F2 ρ2 → Same F2 H2 → TK X.K H1 H2)
    (hb : ∀ H1, Same F H1 → RB X H1 (ρ.set j (some (.pr pr))) sts { nx := fun σ H => ∃ F2 ρ2, W H1 F2 ρ2 ∧ EnvOk X.K F2 H σ ρ2, ct := fun σ H => ∃ F2 ρ2, W H1 F2 ρ2 ∧ EnvOk X.K F2 H σ ρ2, bk := fun σ H => wB X rest D σ H, rt := D.rt })
    (hd : ∀ H1 F2 ρ2, Same F H1 → W H1 F2 ρ2 → RB X F2 ρ2 rest D)
    (hN : X.N.Nodup) (hj : X.N[j]? = some x := by rfl) (hx : Loc X.env.scope x := by first | exact Or.inl rfl | exact Or.inr rfl) (hf : X.fn x = true ∨ X.env.scope.names.lookup x = some .local := by first | exact .inl rfl | exact .inr rfl)
    (hs : ∀ x, foldedSetIterable iter X.env x = pure x := by intro _; rfl) : RB X F ρ (.For (.Name x tpos) iter sts [] pos :: rest) D := rb_step fun σ H E => by
  refine ofS (ps_for hp hc (pi_tup pe_w) (pg_name hN hj hx hf) pb_w hs) ?_
  refine hi σ H _ E fun v H1 e1 hv => ?_
  have eF := E.2.2.trans e1
  obtain ⟨q, y, rfl, hq, hy⟩ := hv.p
  refine ⟨q, rfl, ⟨[y], hq⟩, ?_⟩
  refine ⟨fun i m σ' H' => m = 1 - i ∧ ((i = 0 ∧ σ' = σ ∧ H' = H1) ∨ (i = 1 ∧ ∃ F2 ρ2, W H1 F2 ρ2 ∧ EnvOk X.K F2 H' σ' ρ2)), ⟨1, rfl, .inl ⟨rfl, rfl, rfl⟩⟩, ?_⟩
  rintro i m σ' H' ⟨rfl, ⟨rfl, rfl, rfl⟩ | ⟨rfl, F2, ρ2, w, E2⟩⟩
  · right
    refine ⟨⟨[y], y, hq, rfl⟩, fun σ2 H2 => ∃ F2 ρ2, W H' F2 ρ2 ∧ EnvOk X.K F2 H2 σ2 ρ2, fun σ2 H2 q => ⟨0, by omega, rfl, .inr ⟨rfl, q⟩⟩, fun z H2 hz => ?_⟩
    obtain ⟨rfl, hz⟩ := hz
    have hz' := hz [y] hq
    have ez : y = z := by simpa using hz'
    subst ez
    have B := hb H2 eF _ H2 ((E.mono e1).anchor.setS (i := j) (st.ok hy))
    exact fun pins s I => thn (B pins s I) fun fl s' z => by
      cases fl with
      | next => obtain ⟨σ4, H4, I4, z⟩ := z; exact ⟨σ4, H4, I4, z⟩
      | cont => obtain ⟨σ4, H4, I4, z⟩ := z; exact ⟨σ4, H4, I4, z⟩
      | brk => exact z
      | ret v => exact z
  · left
    have t := tk H1 F2 ρ2 H' eF w E2.2.2
    exact ⟨⟨[y], t _ _ hq, by simp⟩, hd H1 F2 ρ2 eF w σ' H' E2⟩
/-! ### sorted, of vectors -/
def sortV (L : List (List Int)) : List (List Int) := L.mergeSort fun a b => decide (a ≤ b)
theorem alike_V (a b : List Int) : PySem.W.alike (dV a) (dV b) = true := by
  show PySem.W.alike (.tuple _) (.tuple _) = true
  simp [PySem.W.alike, PySem.W.alike_ints]
theorem dataLe_V {β : Type} (k : β → List Int) : PySem.W.dataLe false (fun b => dV (k b)) = fun p q => decide (k p ≤ k q) := by
  funext p q
  show (!PySem.W.dataLt (.tuple ((k q).map .int)) (.tuple ((k p).map .int))) = _
  rw [PySem.W.dataLt_tuple]
  show (!PySem.W.rowLt ((k q).map .int) ((k p).map .int)) = _
  rw [PySem.W.dataLt_ints]
  by_cases h : k q < k p
  · have h' : ¬ k p ≤ k q := fun r => List.not_lt.mpr r h
    simp [h, h']
  · have h' : k p ≤ k q := List.not_lt.mp h
    simp [h, h']
theorem reads_V {pins : List (Addr × Obj)} {σ : L2.St} {H : Hp} {s : Shared} (I : Inv X pins σ H s) {v : V} {u : Value} {r : List Int} (dv : Dp X.K H v (dV r)) (rv : RelV v u) : ∃ as, Reads s.heap u (dV r) as := by
  obtain ⟨q, xs, rfl, hq, hx⟩ := dp_tup dv
  have e := dpA_ints hx
  subst e
  obtain rfl : u = Value.ref q := rv
  obtain ⟨its, rv, ht, _⟩ := I.tuple hq
  obtain ⟨as, hr⟩ := reads_ints (h := s.heap) rv.ints
  obtain ⟨o, ho, hc, n, hd⟩ := ht
  exact ⟨as, .tuple ho hc hd (by simpa using hr)⟩
def rSortV (K : PySem.W.Frag) : List V → Hp → VK → Prop := fun vs H Q => ∃ (a : Addr) (bs : List (V × List Int)), vs = [V.ref a] ∧ SqL K H a (bs.map (·.1)) ∧ (∀ b ∈ bs, Dp K H b.1 (dV b.2)) ∧ (∀ b ∈ bs, b.2 ≠ []) ∧ bs.length ≤ 100000 ∧
  ∀ p, H p = none → Q (.ref p) (upd H p (.lst ((bs.mergeSort (PySem.W.dataLe false fun b => dV b.2)).map (·.1))))
theorem cr_sortedV (hu : X.A.units + 64 < cLine) : CallR X (.builtin "sorted") (rSortV X.K) := by
  intro pins s σ H vs us Q I r h
  obtain ⟨a, bs, rfl, hs, hd, hne, hl, q⟩ := h
  obtain ⟨its, rv, il, _⟩ := I.list hs
  rw [Vals.ref1 r]
  have pair : ∀ {bs : List (V × List Int)} {its : List Value}, Vals (bs.map (·.1)) its → (∀ b ∈ bs, Dp X.K H b.1 (dV b.2)) → PySem.W.EachIs (fun v (b : V × List Int) => RelV b.1 v ∧ ∃ as, Reads s.heap v (dV b.2) as) its bs := by
    intro bs
    induction bs with
    | nil => intro its h _; cases h; exact .nil
    | cons b bs ih =>
      intro its h hd
      cases h with
      | cons h1 h2 => exact .cons ⟨h1, reads_V I (hd b List.mem_cons_self) h1⟩ (ih h2 fun c hc => hd c (List.mem_cons_of_mem _ hc))
  have e := pair rv hd
  have hz : bs.length ≤ sizeLine := by rw [sizeLine_eq]; omega
  refine PySem.W.sorted_data (R := fun v (b : V × List Int) => RelV b.1 v) (enc := fun b : V × List Int => dV b.2) (vs := its) (bs := bs) (by simpa using il.isList) (e.mono fun _ _ h => h.1) (e.mono fun _ _ h => h.2) (PySem.W.AllAlike.of fun b b' => alike_V b.2 b'.2) (.inl fun d hd' => ?_) hz (fun b _ => ?_) fun out ho eo => ?_
  · obtain ⟨b, hb, rfl⟩ := List.mem_map.mp hd'
    cases e1 : b.2 with
    | nil => exact (hne b hb e1).elim
    | cons x r => exact ⟨_, _, rfl⟩
  · show X.A.units + 2 + PyData.depth (.tuple (b.2.map .int)) < cLine
    simp [PyData.depth, PySem.W.depth_ints]
    omega
  · obtain ⟨ep, he'⟩ := PyProof.Rows.sortedAll_at s.heap its out.toArray
    have vo : ∀ {out : List Value} {cs : List (V × List Int)}, PySem.W.EachIs (fun v (b : V × List Int) => RelV b.1 v) out cs → Vals (cs.map (·.1)) out := by
      intro out cs h
      induction h with
      | nil => exact .nil
      | cons h1 _ ih => exact .cons h1 ih
    have hlen : ((bs.mergeSort (PySem.W.dataLe false fun b => dV b.2)).map (·.1)).length ≤ sizeLine := by rw [List.length_map, List.length_mergeSort]; exact hz
    exact ⟨.ref _, upd H (s.heap.objs.size + 1) (.lst _), I.laid (t' := s.toks) (fun _ _ => PyProof.Rows.sortedAll_old) (Nat.le_succ _) ⟨hlen, out, ep, vo eo, he'⟩, rfl, q _ (I.hok.fresh (Nat.le_succ _))⟩
theorem sortV_perm (L : List (List Int)) : (sortV L).Perm L := List.mergeSort_perm _ _
theorem sortV_pw (L : List (List Int)) : (sortV L).Pairwise (· ≤ ·) := (List.pairwise_mergeSort (le := fun a b : List Int => decide (a ≤ b)) (fun a b c h1 h2 => by simp at *; exact List.le_trans h1 h2) (fun a b => by simpa using List.le_total a b) L).imp fun h => by simpa using h
theorem sortV_eq {L M : List (List Int)} (h : M.Perm L) (hp : M.Pairwise (· ≤ ·)) : sortV L = M := List.Perm.eq_of_pairwise (fun a b _ _ => List.le_antisymm) (sortV_pw L) hp ((sortV_perm L).trans h.symm)
theorem dpA_zip {K : PySem.W.Frag} {H : Hp} : ∀ {L : List (List Int)} {xs : List V}, DpAll K H xs (L.map fun r => dV r) → ∃ bs : List (V × List Int), bs.map (·.1) = xs ∧ bs.map (·.2) = L ∧ ∀ b ∈ bs, Dp K H b.1 (dV b.2)
  | [], _, .nil => ⟨[], rfl, rfl, fun _ h => nomatch h⟩
  | r :: L, v :: _, .cons h1 h2 => by
    obtain ⟨bs, e1, e2, e3⟩ := dpA_zip h2
    refine ⟨(v, r) :: bs, by simp [e1], by simp [e2], fun b hb => ?_⟩
    rcases List.mem_cons.mp hb with q | q
    · subst q; exact h1
    · exact e3 b q
theorem zip_dpA {K : PySem.W.Frag} {H : Hp} : ∀ {bs : List (V × List Int)}, (∀ b ∈ bs, Dp K H b.1 (dV b.2)) → DpAll K H (bs.map (·.1)) ((bs.map (·.2)).map fun r => dV r)
  | [], _ => .nil
  | b :: bs, h => .cons (h b List.mem_cons_self) (zip_dpA fun c hc => h c (List.mem_cons_of_mem _ hc))
theorem ed_sortedV {L : List (List Int)} (hm : X.mg "sorted" = none) (hu : X.A.units + 64 < cLine) (h : ED X F ρ e (dLM L)) (hne : ∀ r ∈ L, r ≠ []) (hl : L.length ≤ 100000) (hg : Gl X "sorted" := by rfl) (he : starEach [e] X.env = (false, eval e X.env) :: starEach [] X.env := by rfl) : ED X F ρ (.Call (.Name "sorted" p) [e] [] pos) (dLM (sortV L)) :=
  ed_of (er_bi (cr_sortedV hu) hm (by decide +kernel) (ea_cons h ea_nil he) (fun vs H Q dvs k => by
    obtain ⟨v, rfl, dv⟩ := dpA1 dvs
    obtain ⟨q, xs, rfl, hq, hx⟩ := dp_lst dv
    obtain ⟨bs, rfl, rfl, hb⟩ := dpA_zip hx
    refine ⟨q, bs, rfl, hq, hb, fun b hb' => hne _ (List.mem_map.mpr ⟨b, hb', rfl⟩), by simpa using hl, fun p hp => ?_⟩
    refine k _ _ _ rfl (Same.new hp) ?_
    have pm := List.mergeSort_perm bs (PySem.W.dataLe false fun b : V × List Int => dV b.2)
    have es : sortV (bs.map (·.2)) = (bs.mergeSort (PySem.W.dataLe false fun b : V × List Int => dV b.2)).map (·.2) := by
      refine sortV_eq (pm.map _) (List.pairwise_map.mpr ?_)
      rw [dataLe_V]
      exact (List.pairwise_mergeSort (le := fun a b : V × List Int => decide (a.2 ≤ b.2)) (fun a b c h1 h2 => by simp at *; exact List.le_trans h1 h2) (fun a b => by simpa using List.le_total a.2 b.2) bs).imp fun h => by simpa using h
    rw [es]
    exact .lst (SqL.of upd_same) (zip_dpA fun b hb' => dp_mono (Same.new hp) (hb b (pm.mem_iff.mp hb')))) hg (he := he))
end
end DL
end
section
namespace L2
open PySem PySem.Spec PyProof.Rows GenW
/-! ### yield from a list -/
section
variable {prog : Program} {w : World} {A : Around} {E : Value → Shared → Prop} {s : Shared}
theorem special_lst_item {it l : Addr} {i : Nat} {items : Array Value} {x : Value} {Q : Option Value → Shared → Prop} (hit : s.heap.IsListIter it l i) (hl : s.heap.IsList l items) (hx : items[i]? = some x)
    (hQ : ∀ h', h'.IsListIter it l (i + 1) → Heap.SameBut it s.heap h' → Q (some x) { s with heap := h' }) : wpAny (model prog w) A (callSpecial? (.ref it) "__next__") Q E s := by
  obtain ⟨o, ho, hc, hd⟩ := id hit
  obtain ⟨ol, hol, _, nl, hdl⟩ := hl
  refine wpAny_callSpecial?_slot (name := Str.ofString "__next__") hit.typeIs slot_listiter_next (wpAny_call_entry slot_listiter_next hit.typeIs entry_listiter_next ?_ (args_listiter_next _))
  show wpAny _ _ (field (.ref it) 0 >>= _) _ _ s
  refine wpAny_bind (wpAny_field ho hd (x := .ref l) rfl ?_)
  show wpAny _ _ (if (Value.ref l == Value.none) = true then _ else _) _ _ s
  rw [if_neg (show ¬ ((Value.ref l == Value.none) = true) from Bool.false_ne_true)]
  show wpAny _ _ (field (.ref it) 1 >>= _) _ _ s
  refine wpAny_bind (wpAny_field ho hd (x := .int i 0) rfl ?_)
  show wpAny _ _ (seqItems? (.ref l) >>= _) _ _ s
  refine wpAny_bind (wpAny_seqItems hol hdl ?_)
  simp only [Int.toNat_natCast, hx]
  refine wpAny_bind (wpAny_setField ho hd (by simp) (wpAny_pure ⟨x, rfl, hQ _ ?_ (Heap.SameBut.update ..)⟩))
  exact ⟨_, Heap.get?_update_self _ ho (Obj.isFreed_of_fields (Obj.data_mapFields hd _)), (Obj.cls_mapFields ..).trans hc, by
    rw [Obj.data_mapFields hd]; simp [rawInt]⟩
theorem special_lst_end {it l : Addr} {i : Nat} {items : Array Value} {Q : Option Value → Shared → Prop} (hh : A.handled = none) (hit : s.heap.IsListIter it l i) (hl : s.heap.IsList l items) (hx : items[i]? = none)
    (hE : ∀ e h', StopX e h' → Heap.ExtBut it s.heap h' → E e { s with heap := h' }) : wpAny (model prog w) A (callSpecial? (.ref it) "__next__") Q E s := by
  obtain ⟨o, ho, hc, hd⟩ := id hit
  obtain ⟨ol, hol, _, nl, hdl⟩ := hl
  refine wpAny_callSpecial?_slot (name := Str.ofString "__next__") hit.typeIs slot_listiter_next (wpAny_call_entry slot_listiter_next hit.typeIs entry_listiter_next ?_ (args_listiter_next _))
  show wpAny _ _ (field (.ref it) 0 >>= _) _ _ s
  refine wpAny_bind (wpAny_field ho hd (x := .ref l) rfl ?_)
  show wpAny _ _ (if (Value.ref l == Value.none) = true then _ else _) _ _ s
  rw [if_neg (show ¬ ((Value.ref l == Value.none) = true) from Bool.false_ne_true)]
  show wpAny _ _ (field (.ref it) 1 >>= _) _ _ s
  refine wpAny_bind (wpAny_field ho hd (x := .int i 0) rfl ?_)
  show wpAny _ _ (seqItems? (.ref l) >>= _) _ _ s
  refine wpAny_bind (wpAny_seqItems hol hdl ?_)
  simp only [Int.toNat_natCast, hx]
  refine wpAny_bind (wpAny_rule (wpAny_bind (wpAny_setField ho hd (by simp) ?_)))
  show wpAny _ _ (newExc (.type "StopIteration") [] >>= _) _ _ _
  refine wpAny_bind ?_
  simp only [newExc, newTuple]
  refine wpAny_bind (wpAny_newObj_type ?_ (by size_fits))
  refine wpAny_bind (m := firstArgMember _ _) (wpAny_of_eq (a := Value.none) (by first | rfl | (simp only [firstArgMember]; rfl)) ?_)
  refine wpAny_newObj_type ?_ (by size_fits)
  simp only [raiseNew]
  refine wpAny_bind (wpAny_handled ?_)
  first | rw [show A.in1.handled = none from hh] | rw [hh]
  refine wpAny_bind (wpAny_pure (wpAny_throw ?_))
  refine hE _ _ ⟨_, _, _, rfl, Heap.get?_push_size _ rfl, rfl, rfl, ?_⟩ (((Heap.SameBut.update ..).extBut.push _).push _)
  first
    | rfl
    | (rw [Array.getElem?_append_left (by decide)]; rfl)
    | kernel_rfl
end
section
variable {X : Cx} {e : Expr} {te : TE}
def tYfLst (te : TE) : TYf := fun σ H Q => te σ H fun x H1 => ∃ a xs, x = .ref a ∧ H1 a = some (.lst xs) ∧ Q xs H1
theorem close_lst : typeLookup (.type "list_iterator") "close" = pure none := by rw [typeLookup_type, builtinLookup_eq_fast]; kernel_rfl
theorem yf_lst (he : PE X e te) : YfE X e (tYfLst te) := by
  refine ⟨fun pins s σ H Q I h => ?_⟩
  refine thn (he.run pins s σ H _ I h) fun v s1 ⟨x, H1, I1, r1, a, xs, ex, ha, hq⟩ => ?_
  subst ex
  obtain rfl : v = Value.ref a := r1
  obtain ⟨its, rits, pl, hlen⟩ := I1.list (SqL.of ha)
  have ht := pl.isList
  have htT : s1.TypeIs (.ref a) "list" := by
    obtain ⟨o, ho, hc, _⟩ := ht
    exact ⟨o, ho, hc⟩
  refine ⟨"list", htT, by decide, wpAny_pyIter_list ht ?_⟩
  have ksz : ∀ b o, s1.heap.get? b = some o → b ≠ s1.heap.objs.size := fun b o e => Nat.ne_of_lt (Heap.lt_size e)
  have kp : ∀ b o, s1.heap.get? b = some o → (s1.heap.push { cls := .type "list_iterator", data := .fields #[.ref a, .int 0 0] }).get? b = some o := fun b o e => Heap.get?_push_of_some _ e
  have keepL : ∀ {h h' : Heap}, h.IsList a its.toArray → (∀ o, h.get? a = some o → h'.get? a = some o) → h'.IsList a its.toArray := fun {h h'} ⟨o, ho, r⟩ k => ⟨o, k o ho, r⟩
  refine ⟨s1.heap.objs.size, H1, xs, fun j h => h.IsListIter s1.heap.objs.size a j ∧ h.IsList a its.toArray, rfl, I1.kept (t' := s1.toks) kp, .inr I1.sz, Nat.ne_of_gt I1.lt, fun y c hy => ?_, I1.hok.fresh (Nat.le_refl _), fun p hp => ?_,
    ⟨⟨_, Heap.get?_push_size _ rfl, rfl, rfl⟩, keepL ht fun o ho => kp a o ho⟩, ⟨⟨"list_iterator", fun j h q => ?_, close_lst, by decide⟩, fun j h h' q hk => ?_, fun A' j x s2 Q' E' hA hx q hQ => ?_, fun A' s2 Q' E' hA q hE => ?_⟩, hq⟩
  · obtain ⟨v, o, ho, _⟩ := I1.cell y c hy
    exact ksz c o ho
  · exact ksz p.1 _ (I1.pin p hp).1
  · obtain ⟨⟨o, ho, hc, _⟩, _⟩ := q
    exact ⟨o, ho, hc⟩
  · obtain ⟨⟨o, ho, r⟩, o2, ho2, r2⟩ := q
    exact ⟨⟨o, hk _ o (.inl rfl) ho, r⟩, o2, hk _ o2 (.inr (by rw [ha]; exact fun z => by cases z)) ho2, r2⟩
  · obtain ⟨q1, q2⟩ := q
    obtain ⟨u, hu, ru⟩ := rits.get hx
    have hne : a ≠ s1.heap.objs.size := by
      obtain ⟨o, ho, _⟩ := ht
      exact ksz a o ho
    exact special_lst_item q1 q2 (x := u) (by simpa using hu) fun h' q1' hs => hQ u h' s2.toks ru ⟨q1', keepL q2 fun o ho => hs.extBut a o hne ho⟩ fun b o hb eb => hs.extBut b o hb eb
  · obtain ⟨q1, q2⟩ := q
    have hnone : its.toArray[xs.length]? = none := by
      have e := rits.length
      have e2 : its[xs.length]? = none := List.getElem?_eq_none_iff.mpr (by omega)
      simpa using e2
    exact special_lst_end hA q1 q2 hnone fun e h' hS hk => hE e h' s2.toks hS fun b o hb eb => hk b o hb eb
end
end L2
end
section
namespace DL
open PySem PySem.Spec PyProof.Rows L2 WM
/-! ### objects in slots, while a list changes -/
def TI (K : PySem.W.Frag) (H H' : Hp) : Prop := TK K H H' ∧ ∀ b C dx fs, H b = some (.ins C dx fs) → H' b = some (.ins C dx fs)
def KSt (K : PySem.W.Frag) (p : Hp → V → Prop) : Prop := ∀ H H' v, p H v → TI K H H' → p H' v
def immX (K : PySem.W.Frag) (x : Slot) : Prop := immS x = true ∨ ∃ p, x = .pr p ∧ Stb p ∧ KSt K p
def immRX (K : PySem.W.Frag) (ρ : Rho) : Prop := ∀ (i : Nat) (x : Slot), ρ[i]? = some (some x) → immX K x
theorem EnvOk.ti {K : PySem.W.Frag} {F F' H H' : Hp} {σ : L2.St} {ρ : Rho} (h : EnvOk K F H σ ρ) (t : TI K H H') (m : immRX K ρ) (f : Same F' H') : EnvOk K F' H' σ ρ := ⟨h.1, fun i x hd => by
  obtain ⟨v, h1, h2⟩ := h.2.1 i x hd
  refine ⟨v, h1, ?_⟩
  cases x with
  | dat d =>
    rcases m i _ hd with q | ⟨p, q, _⟩
    · exact dp_tk t.1 d q h2
    · cases q
  | val u => exact h2
  | pr p =>
    rcases m i _ hd with q | ⟨p', q, s, k⟩
    · exact absurd q (by simp [immS])
    · cases q
      exact s.ok (k _ _ _ h2.p t), f⟩
theorem immRX.set {K : PySem.W.Frag} {ρ : Rho} {i : Nat} {x : Slot} (h : immRX K ρ) (hx : immX K x) : immRX K (ρ.set i (some x)) := fun j y hj => by
  rcases Nat.lt_or_ge j ρ.length with l | l
  · by_cases q : i = j
    · subst q
      rw [List.getElem?_set_self l] at hj
      cases hj; exact hx
    · rw [List.getElem?_set_ne q] at hj
      exact h j y hj
  · rw [List.getElem?_eq_none (by simpa using l)] at hj
    cases hj
theorem immRX_S {K : PySem.W.Frag} {N : List Str} {xs : List Slot} (h : ∀ x ∈ xs, immX K x) : immRX K (rhoS N xs) := fun j y hj => by
  unfold rhoS at hj
  have m := List.mem_of_getElem? hj
  rcases List.mem_append.mp m with q | q
  · obtain ⟨x, hx, e⟩ := List.mem_map.mp q
    cases e
    exact h _ hx
  · have := (List.mem_replicate.mp q).2
    cases this
theorem immRX_nil {K : PySem.W.Frag} : ∀ x ∈ ([] : List Slot), immX K x := fun _ h => nomatch h
theorem immRX_cons {K : PySem.W.Frag} {x : Slot} {xs : List Slot} (h : immX K x) (h' : ∀ y ∈ xs, immX K y) : ∀ y ∈ x :: xs, immX K y := fun y hy => by
  rcases List.mem_cons.mp hy with q | q
  · subst q; exact h
  · exact h' y q
theorem immRX_of {K : PySem.W.Frag} {ρ : Rho} (h : immR ρ) : immRX K ρ := fun i x hx => .inl (h i x hx)
theorem mo_kst {K : PySem.W.Frag} {C : Addr} {n m : Nat} {B : List (List Int)} : KSt K (Mo K C n m B) := fun H H' v ⟨q, dx, u, e1, e2, e3⟩ t => ⟨q, dx, u, e1, t.2 _ _ _ _ e2, dp_tk t.1 _ (imm_dM B) e3⟩
theorem t1_kst {K : PySem.W.Frag} {p : Hp → V → Prop} (k : KSt K p) : KSt K (T1 K p) := fun H H' v ⟨a, y, e1, e2, e3⟩ t => ⟨a, y, e1, t.1 _ _ e2, k _ _ _ e3 t⟩
theorem immX_mo {K : PySem.W.Frag} {C : Addr} {n m : Nat} {B : List (List Int)} : immX K (sMo K C n m B) := .inr ⟨_, rfl, mo_stb, mo_kst⟩
theorem immX_t1 {K : PySem.W.Frag} {C : Addr} {n m : Nat} {B : List (List Int)} : immX K (.pr (T1 K (Mo K C n m B))) := .inr ⟨_, rfl, t1_stb mo_stb, t1_kst mo_kst⟩
section
variable {X : Cx} {F : Hp} {ρ : Rho} {a b c e f o tg : Expr} {es : List Expr} {rest sts us : List Stmt} {pos p2 p pos' apos : Pos} {d d1 d2 d3 : PyData} {ds : List PyData} {x fl : Str} {v u : V} {D : Ends} {q l : Addr}
theorem rb_appendP {ys : List V} (ho : EV X F ρ o (.ref l)) (hF : F l = some (.lst ys)) (ha : ED X F ρ e d) (hl : ys.length ≤ 100000) (hd : imm d = true) (hR : immRX X.K ρ)
    (k : ∀ H v, Keep (· = l) F H → TI X.K F H → H l = some (.lst (ys ++ [v])) → Dp X.K H v d → RB X H ρ rest D)
    (hbase : attributeBase o "append" X.env (eval o X.env) = eval o X.env := by rfl)
    (hfew : ((backTo pos (starEach [e] X.env)).all (fun x => !x.1) && (backToKw pos (keywordEach [] X.env)).all (fun x => x.1.isSome) && decide (([e] : List Expr).length + ([] : List Keyword).length + (if ([] : List Keyword).isEmpty then 0 else 1) < 30)) = true := by rfl)
    (hline : (apos.endLine == pos.line) = true := by rfl) (hs : starEach [e] X.env = (false, eval e X.env) :: starEach [] X.env := by rfl) (hplain : (backTo pos (starEach [] X.env)).any (·.1) = false := by rfl)
    (hsw : swapsWith (.Call (.Attribute o "append" apos) [e] [] pos) none pos'.line X.env = pure false := by rfl) :
    RB X F ρ (.Expr (.Call (.Attribute o "append" apos) [e] [] pos) pos' :: rest) D :=
  rb_exprW (fun σ H E => we_append E ho hF ha hl (fun v H' e dv => by
    have E' := E.mono e
    have hq := E'.2.2 _ _ hF
    have t : TI X.K H' (upd H' l (.lst (ys ++ [v]))) := ⟨(TK.refl H').upd (by rw [hq]; trivial), fun b C dx fs hb => by rw [upd_ne (fun z => by rw [z, hq] at hb; cases hb)]; exact hb⟩
    have tF : TI X.K F H' := ⟨TK.of E'.2.2, fun b C dx fs hb => E'.2.2 _ _ hb⟩
    exact ⟨_, k _ v ((Keep.of E'.2.2).upd (.inl rfl)) ⟨tF.1.trans t.1, fun b C dx fs hb => t.2 _ _ _ _ (tF.2 _ _ _ _ hb)⟩ upd_same (dp_tk t.1 _ hd dv), E'.ti t hR (Same.refl _)⟩) hbase hfew hline hs hplain) hsw
end
end DL
end
section
namespace DL
open WM
/-! ### all members of a span -/
def addV (w : Nat) (v : List Int) (f : Int) (r : List Int) : List Int := sumV w v (mulV w r f)
def pvt (r : List Int) : Int := (r.filter fun x => decide (0 < x)).getD 0 0
def wmF (w : Nat) (F : List (List Int)) (r : List Int) : List (List Int) := F.flatMap fun v => (List.range ((2 : Int) ^ w / pvt r).toNat).map fun f : Nat => addV w v f r
def memF (w m : Nat) (B : List (List Int)) : List (List Int) := B.foldl (wmF w) [List.replicate m 0]
/-- the difference of two vectors lies in a span -/
def Df (w n : Nat) (S : List (List Int)) (u v : List Int) : Prop := SpB w n S (fun i => ix u i - ix v i)
section
variable {w n lo c : Nat} {v r u : List Int} {B rs F : List (List Int)} {f : Int}
theorem isVec_addV (hv : v.length = n) (hr : r.length = n) : IsVec w n (addV w v f r) := isVec_sum hv (by simp [mulV, hr])
theorem addV_mod {i : Nat} (hv : v.length = n) (hr : r.length = n) (hi : i < n) : (2 : Int) ^ w ∣ ix (addV w v f r) i - (ix v i + f * ix r i) := by
  have h1 := mul_mod (w := w) (f := f) hr hi
  have h2 := sum_mod (w := w) (b := mulV w r f) hv (by simp [mulV, hr]) hi
  exact dv2 1 1 h1 h2 (by unfold addV; grind)
theorem pvt_lead : ∀ {r : List Int} {c : Nat}, (∀ i, i < c → ix r i = 0) → 0 < ix r c → pvt r = ix r c
  | [], c, _, h => by simp [ix] at h
  | x :: xs, 0, _, h => by
    have : ix (x :: xs) 0 = x := rfl
    rw [this] at h
    simp [pvt, this, h]
  | x :: xs, c + 1, hz, h => by
    have e0 : x = 0 := hz 0 (by omega)
    subst e0
    have ih := pvt_lead (r := xs) (c := c) (fun i hi => hz (i + 1) (by omega)) h
    have : pvt (0 :: xs) = pvt xs := by simp [pvt]
    rw [this, ih]; rfl
theorem lead_pvt (h : Lead w n r c) : pvt r = ix r c := pvt_lead h.2.1 h.pos
theorem Df.refl (S : List (List Int)) (u : List Int) : Df w n S u u := .zero fun i _ => dv0 (by grind)
theorem Df.symm {S : List (List Int)} (h : Df w n S u v) : Df w n S v u := (h.smul (-1)).congr fun i _ => dv0 (by grind)
theorem Df.trans {S : List (List Int)} {x : List Int} (h : Df w n S u v) (h' : Df w n S v x) : Df w n S u x := (h.plus h').congr fun i _ => dv0 (by grind)
theorem Df.mono {S T : List (List Int)} (h : Df w n S u v) (hs : ∀ s ∈ S, s ∈ T) : Df w n T u v := Sp.mono h hs
theorem Df.add (hv : v.length = n) (hr : r.length = n) (hm : r ∈ B) : Df w n B (addV w v f r) v := ((Sp.mem (M := 2 ^ w) (n := n) hm).smul f).congr fun i hi => dv1 1 (addV_mod (w := w) (f := f) hv hr hi) (by grind)
theorem lead_count (hl : Lead w n r c) : ∃ k, k < w ∧ ix r c = 2 ^ k ∧ (2 : Int) ^ w / pvt r = 2 ^ (w - k) := by
  obtain ⟨k, hk, e⟩ := hl.2.2
  exact ⟨k, hk, e, by rw [lead_pvt hl, e, pow_div (Nat.le_of_lt hk)]⟩
/-- the elements that one row adds -/
theorem wm_mem (hl : Lead w n r c) (hr : IsVec w n r) (hs : SpB w n rs (fun i => 2 ^ w / ix r c * ix r i)) (hF : ∀ u ∈ F, IsVec w n u) {v : List Int} :
    (∃ u ∈ wmF w F r, Df w n rs v u) ↔ ∃ u ∈ F, Df w n (r :: rs) v u := by
  obtain ⟨k, hk, ek, eq⟩ := lead_count hl
  constructor
  · rintro ⟨u, hu, d⟩
    obtain ⟨u0, h0, h1⟩ := List.mem_flatMap.mp hu
    obtain ⟨f, _, rfl⟩ := List.mem_map.mp h1
    exact ⟨u0, h0, (d.mono fun s hs => List.mem_cons_of_mem _ hs).trans (Df.add (hF u0 h0).1 hr.1 List.mem_cons_self)⟩
  · rintro ⟨u, hu, d⟩
    obtain ⟨j, hj⟩ := Sp.cons d
    have pp := pow_pos2 (w - k)
    refine ⟨addV w u (j % 2 ^ (w - k)) r, List.mem_flatMap.mpr ⟨u, hu, List.mem_map.mpr ⟨(j % 2 ^ (w - k)).toNat, List.mem_range.mpr ?_, ?_⟩⟩, ?_⟩
    · rw [eq]
      have a := Int.emod_nonneg j (Int.ne_of_gt pp)
      have b := Int.emod_lt_of_pos j pp
      omega
    · rw [Int.toNat_of_nonneg (Int.emod_nonneg j (Int.ne_of_gt pp))]
    · have hs' : SpB w n rs (fun i => (2 : Int) ^ (w - k) * ix r i) := by rw [ek, pow_div (Nat.le_of_lt hk)] at hs; exact hs
      have h2 := hj.comb hs' 1 (j / 2 ^ (w - k))
      refine h2.congr fun i hi => ?_
      have h3 := addV_mod (w := w) (f := j % 2 ^ (w - k)) (hF u hu).1 hr.1 hi
      have h4 := Int.emod_add_mul_ediv j (2 ^ (w - k))
      refine dv1 (-1) h3 ?_
      generalize j % 2 ^ (w - k) = a at *
      generalize j / 2 ^ (w - k) = b at *
      subst h4
      grind
theorem wm_nodup (hl : Lead w n r c) (ht : HB w n (c + 1) rs) (hr : IsVec w n r) (hF : ∀ u ∈ F, IsVec w n u) (hp : F.Pairwise fun u v => ¬ Df w n (r :: rs) u v) :
    (wmF w F r).Pairwise fun u v => ¬ Df w n rs u v := by
  obtain ⟨k, hk, ek, eq⟩ := lead_count hl
  have up : ∀ {x y : List Int}, Df w n rs x y → Df w n (r :: rs) x y := fun d => d.mono fun s hs => List.mem_cons_of_mem _ hs
  refine List.pairwise_flatMap.mpr ⟨fun u hu => ?_, ?_⟩
  · refine List.pairwise_map.mpr ?_
    refine (List.nodup_range).imp_of_mem fun {a b} ha hb hne d => hne ?_
    have h0 : (2 : Int) ^ w ∣ ix (addV w u a r) c - ix (addV w u b r) c := Sp.at0 d hl.1 fun s hs => by rw [ht.zero (by omega) s hs]; exact Int.dvd_zero _
    have h1 := addV_mod (w := w) (f := (a : Int)) (hF u hu).1 hr.1 hl.1
    have h2 := addV_mod (w := w) (f := (b : Int)) (hF u hu).1 hr.1 hl.1
    have h3 : (2 : Int) ^ w ∣ ((a : Int) - b) * 2 ^ k := dv3 1 (-1) 1 h0 h1 h2 (by rw [ek]; grind)
    have h4 : (2 : Int) ^ (w - k) ∣ (a : Int) - b := by
      have e : (2 : Int) ^ w = 2 ^ (w - k) * 2 ^ k := by rw [← Int.pow_add]; congr 1; omega
      rw [e] at h3
      exact Int.dvd_of_mul_dvd_mul_right (Int.ne_of_gt (pow_pos2 k)) h3
    rw [eq] at ha hb
    have a1 := List.mem_range.mp ha
    have b1 := List.mem_range.mp hb
    obtain ⟨q, e⟩ := h4
    have pp := pow_pos2 (w - k)
    generalize (2 : Int) ^ (w - k) = p at *
    have : q = 0 := by
      rcases Int.lt_trichotomy q 0 with l | l | l
      · have : p * q ≤ p * (-1) := Int.mul_le_mul_of_nonneg_left (by omega) (by omega)
        omega
      · exact l
      · have : p * 1 ≤ p * q := Int.mul_le_mul_of_nonneg_left (by omega) (by omega)
        omega
    subst this
    omega
  · refine hp.imp_of_mem fun {u u'} hu hu' hd x hx y hy d => hd ?_
    obtain ⟨f, _, rfl⟩ := List.mem_map.mp hx
    obtain ⟨g, _, rfl⟩ := List.mem_map.mp hy
    exact ((Df.add (hF u hu).1 hr.1 List.mem_cons_self).symm.trans (up d)).trans (Df.add (hF u' hu').1 hr.1 List.mem_cons_self)
theorem wm_vec (hr : r.length = n) (hF : ∀ u ∈ F, IsVec w n u) : ∀ u ∈ wmF w F r, IsVec w n u := fun u hu => by
  obtain ⟨u0, h0, h1⟩ := List.mem_flatMap.mp hu
  obtain ⟨f, _, rfl⟩ := List.mem_map.mp h1
  exact isVec_addV (hF u0 h0).1 hr
theorem wm_len (w : Nat) (F : List (List Int)) (r : List Int) : (wmF w F r).length = F.length * ((2 : Int) ^ w / pvt r).toNat := by
  unfold wmF
  induction F with
  | nil => simp
  | cons x xs ih => rw [List.flatMap_cons, List.length_append, ih, List.length_map, List.length_range, List.length_cons, Nat.succ_mul]; omega
def cntP (w : Nat) (B : List (List Int)) (f : Int) : Int := B.foldl (fun f r => f * (2 ^ w / pvt r)) f
theorem memF_gen : ∀ {B : List (List Int)} {lo : Nat} {F : List (List Int)}, HB w n lo B → (∀ r ∈ B, IsVec w n r) → (∀ u ∈ F, IsVec w n u) → F.Pairwise (fun u v => ¬ Df w n B u v) →
    (∀ u ∈ B.foldl (wmF w) F, IsVec w n u) ∧ (B.foldl (wmF w) F).Pairwise (fun u v => ¬ Df w n [] u v) ∧ (∀ v, (∃ u ∈ B.foldl (wmF w) F, Df w n [] v u) ↔ ∃ u ∈ F, Df w n B v u) ∧ ((B.foldl (wmF w) F).length : Int) = cntP w B F.length
  | [], _, F, _, _, hF, hp => ⟨hF, hp, fun _ => Iff.rfl, rfl⟩
  | r :: rs, lo, F, hb, hB, hF, hp => by
    obtain ⟨c, hc, hl, ht, hq, hs⟩ := hb
    have rv := hB r List.mem_cons_self
    have h1 := memF_gen (F := wmF w F r) ht (fun s hs => hB s (List.mem_cons_of_mem _ hs)) (wm_vec rv.1 hF) (wm_nodup hl ht rv hF hp)
    refine ⟨h1.1, h1.2.1, fun v => (h1.2.2.1 v).trans (wm_mem hl rv hs hF), ?_⟩
    have h2 := h1.2.2.2
    rw [List.foldl_cons, h2, wm_len]
    obtain ⟨k, hk, ek, eq⟩ := lead_count hl
    show cntP w rs _ = cntP w rs _
    rw [Int.natCast_mul, Int.toNat_of_nonneg (by rw [eq]; exact Int.le_of_lt (pow_pos2 _))]
theorem df_nil (hu : IsVec w n u) (hv : IsVec w n v) : Df w n [] u v ↔ u = v := ⟨fun h => vec_eq hu hv (Sp.nil h), fun h => h ▸ Df.refl _ _⟩
/-- the members of a basis, each once -/
theorem memF_ok {B : List (List Int)} (h : Bas w n B) : (∀ u ∈ memF w n B, IsVec w n u) ∧ (memF w n B).Nodup ∧ (∀ v, IsVec w n v → (v ∈ memF w n B ↔ SpB w n B (ix v))) ∧ ((memF w n B).length : Int) = cntP w B 1 := by
  obtain ⟨h1, h2, h3, h4⟩ := memF_gen (F := [List.replicate n 0]) h.2 h.1 (fun u hu => by obtain rfl := List.mem_singleton.mp hu; exact isVec_zero) (List.pairwise_singleton _ _)
  refine ⟨h1, ?_, fun v hv => ?_, h4⟩
  · exact h2.imp_of_mem fun ha hb hd e => hd ((df_nil (h1 _ ha) (h1 _ hb)).mpr e)
  · have : (∃ u ∈ memF w n B, Df w n [] v u) ↔ v ∈ memF w n B := ⟨fun ⟨u, hu, d⟩ => by rw [(df_nil hv (h1 u hu)).mp d]; exact hu, fun hu => ⟨v, hu, Df.refl _ _⟩⟩
    rw [← this]
    refine (h3 v).trans ⟨fun ⟨u, hu, d⟩ => ?_, fun d => ⟨_, List.mem_singleton.mpr rfl, d.congr fun i _ => dv0 (by rw [ix_zero]; grind)⟩⟩
    obtain rfl := List.mem_singleton.mp hu
    exact d.congr fun i _ => dv0 (by rw [ix_zero]; grind)
end
end DL
end
section
namespace DL
open WM
/-! ### all vectors that an annihilator holds, counted -/
section
variable {w n lo k c : Nat} {v r u : List Int} {B rs F : List (List Int)}
theorem ix_set (hi : lo < v.length) (x : Int) (i : Nat) : ix (v.set lo x) i = if i = lo then x else ix v i := by
  unfold ix
  rw [List.getD_eq_getElem?_getD, List.getElem?_set, List.getD_eq_getElem?_getD]
  by_cases h : i = lo
  · subst h; simp [hi]
  · rw [if_neg (fun e => h e.symm), if_neg h]
theorem isVec_set (hv : IsVec w n v) {x : Int} (h : 0 ≤ x ∧ x < 2 ^ w) : IsVec w n (v.set lo x) := ⟨by rw [List.length_set]; exact hv.1, fun y hy => by
  rcases List.mem_or_eq_of_mem_set hy with q | q
  · exact hv.2 y q
  · subst q; exact h⟩
/-- vectors below a place, one more word free up to its residue -/
def lift (w lo k : Nat) (a : List Int → Int) (F : List (List Int)) : List (List Int) := F.flatMap fun u => (List.range (2 ^ k)).map fun j : Nat => u.set lo (a u + (j : Int) * 2 ^ (w - k))
theorem lift_len (a : List Int → Int) : ∀ F : List (List Int), (lift w lo k a F).length = F.length * 2 ^ k
  | [] => by simp [lift]
  | x :: xs => by
    have ih := lift_len a xs
    unfold lift at *
    rw [List.flatMap_cons, List.length_append, ih, List.length_map, List.length_range, List.length_cons, Nat.succ_mul]; omega
theorem range_piece (hk : k ≤ w) {a j : Int} (ha : 0 ≤ a ∧ a < 2 ^ (w - k)) (hj : 0 ≤ j ∧ j < 2 ^ k) : 0 ≤ a + j * 2 ^ (w - k) ∧ a + j * 2 ^ (w - k) < 2 ^ w := by
  have e : (2 : Int) ^ w = 2 ^ k * 2 ^ (w - k) := by rw [← Int.pow_add]; congr 1; omega
  have hp := pow_pos2 (w - k)
  rw [e]
  generalize (2 : Int) ^ (w - k) = p at *
  generalize (2 : Int) ^ k = q at *
  have h1 : 0 ≤ j * p := Int.mul_nonneg hj.1 (by omega)
  have h2 : j * p ≤ (q - 1) * p := Int.mul_le_mul_of_nonneg_right (by omega) (by omega)
  have h3 : (q - 1) * p = q * p - p := by grind
  omega
theorem lift_ok (hlo : lo < n) (hk : k ≤ w) {a : List Int → Int} {P : List Int → Prop} (ha : ∀ u, 0 ≤ a u ∧ a u < 2 ^ (w - k)) (hn : F.Nodup) (hm : ∀ v, v ∈ F ↔ IsVec w n v ∧ (∀ i, i ≤ lo → ix v i = 0) ∧ P v) :
    (lift w lo k a F).Nodup ∧ ∀ v, v ∈ lift w lo k a F ↔ IsVec w n v ∧ (∀ i, i < lo → ix v i = 0) ∧ P (v.set lo 0) ∧ (2 : Int) ^ (w - k) ∣ ix v lo - a (v.set lo 0) := by
  have c2 : ∀ x : Nat, x < 2 ^ k → ((x : Nat) : Int) < 2 ^ k := fun x hx => by exact_mod_cast hx
  constructor
  · refine List.pairwise_flatMap.mpr ⟨fun u hu => ?_, ?_⟩
    · obtain ⟨hv, hz, _⟩ := (hm u).mp hu
      refine List.pairwise_map.mpr (List.nodup_range.imp fun {x y} hne e => hne ?_)
      have h1 := congrArg (fun l => ix l lo) e
      simp only [ix_set (show lo < u.length by rw [hv.1]; exact hlo), if_pos] at h1
      have hp := pow_pos2 (w - k)
      have h2 : ((x : Int) - y) * 2 ^ (w - k) = 0 := by grind
      rcases Int.mul_eq_zero.mp h2 with q | q
      · omega
      · omega
    · refine hn.imp_of_mem fun {u u'} hu hu' hne x hx y hy e => hne ?_
      obtain ⟨f, _, rfl⟩ := List.mem_map.mp hx
      obtain ⟨g, _, rfl⟩ := List.mem_map.mp hy
      obtain ⟨hv, hz, _⟩ := (hm u).mp hu
      obtain ⟨hv', hz', _⟩ := (hm u').mp hu'
      refine vec_ext hv.1 hv'.1 fun i hi => ?_
      have h1 := congrArg (fun l => ix l i) e
      simp only [ix_set (show lo < u.length by rw [hv.1]; exact hlo), ix_set (show lo < u'.length by rw [hv'.1]; exact hlo)] at h1
      by_cases q : i = lo
      · rw [hz i (by omega), hz' i (by omega)]
      · rw [if_neg q, if_neg q] at h1; exact h1
  · intro v
    constructor
    · intro h
      obtain ⟨u, hu, h1⟩ := List.mem_flatMap.mp h
      obtain ⟨j, hj, rfl⟩ := List.mem_map.mp h1
      obtain ⟨hv, hz, hP⟩ := (hm u).mp hu
      have hl : lo < u.length := by rw [hv.1]; exact hlo
      have hj' := List.mem_range.mp hj
      have e0 : (u.set lo (a u + (j : Int) * 2 ^ (w - k))).set lo 0 = u := by
        rw [List.set_set]
        exact vec_ext (by rw [List.length_set]; exact hv.1) hv.1 fun i hi => by
          rw [ix_set hl]
          split
          · subst_vars; exact (hz _ (Nat.le_refl _)).symm
          · rfl
      refine ⟨isVec_set hv (range_piece hk (ha u) ⟨by omega, c2 _ hj'⟩), fun i hi => ?_, ?_, ?_⟩
      · rw [ix_set hl, if_neg (by omega)]; exact hz i (by omega)
      · rw [e0]; exact hP
      · rw [e0, ix_set hl, if_pos rfl]; exact ⟨(j : Int), by grind⟩
    · rintro ⟨hv, hz, hP, hd⟩
      have hl : lo < v.length := by rw [hv.1]; exact hlo
      have hu : v.set lo 0 ∈ F := (hm _).mpr ⟨isVec_set hv ⟨by decide, pow_pos2 w⟩, fun i hi => by
        rw [ix_set hl]
        split
        · rfl
        · exact hz i (by omega), hP⟩
      obtain ⟨j, ej⟩ := hd
      have hp := pow_pos2 (w - k)
      obtain ⟨a0, a1⟩ := ha (v.set lo 0)
      obtain ⟨v0, v1⟩ := hv.at hlo
      have e : (2 : Int) ^ w = 2 ^ k * 2 ^ (w - k) := by rw [← Int.pow_add]; congr 1; omega
      have j0 : 0 ≤ j := by
        rcases Int.lt_or_le j 0 with q | q
        · have : 2 ^ (w - k) * j ≤ 2 ^ (w - k) * (-1) := Int.mul_le_mul_of_nonneg_left (by omega) (by omega)
          omega
        · exact q
      have j1 : j < 2 ^ k := by
        rcases Int.lt_or_le j (2 ^ k) with q | q
        · exact q
        · have : 2 ^ (w - k) * 2 ^ k ≤ 2 ^ (w - k) * j := Int.mul_le_mul_of_nonneg_left q (by omega)
          rw [e, Int.mul_comm] at v1
          omega
      refine List.mem_flatMap.mpr ⟨_, hu, List.mem_map.mpr ⟨j.toNat, List.mem_range.mpr ?_, ?_⟩⟩
      · have : ((j.toNat : Nat) : Int) < ((2 ^ k : Nat) : Int) := by rw [Int.toNat_of_nonneg j0]; push_cast; exact j1
        exact_mod_cast this
      · rw [Int.toNat_of_nonneg j0, List.set_set]
        refine vec_ext (by rw [List.length_set]; exact hv.1) hv.1 fun i hi => ?_
        rw [ix_set hl]
        split
        · subst_vars; grind
        · rfl
theorem dot_set (hv : v.length = n) (hlo : lo < n) (s : Fn) : (2 : Int) ^ w ∣ dot n (ix v) s - (dot n (ix (v.set lo 0)) s + ix v lo * s lo) := by
  have h := dot_lin (v := s) 1 (ix v lo) (ix (v.set lo 0)) (unit lo) n
  rw [dot_unit hlo] at h
  have h2 : (2 : Int) ^ w ∣ dot n (ix v) s - dot n (fun i => 1 * ix (v.set lo 0) i + ix v lo * unit lo i) s := dot_congr (fun i _ => dv0 (by
    rw [ix_set (by omega)]
    unfold unit
    split
    · subst_vars; grind
    · grind)) fun _ _ => dv0 (by grind)
  rw [h] at h2
  exact dv1 1 h2 (by grind)
theorem hb_empty (h : HB w n lo B) (hn : n ≤ lo) : B = [] := by
  cases B with
  | nil => rfl
  | cons r rs => obtain ⟨c, hc, hl, _⟩ := h; have := hl.1; omega
theorem cntP_mul (w : Nat) : ∀ (B : List (List Int)) (x y : Int), cntP w B (x * y) = x * cntP w B y
  | [], _, _ => rfl
  | r :: rs, x, y => by
    show cntP w rs (x * y * _) = x * cntP w rs (y * _)
    rw [Int.mul_assoc, cntP_mul w rs]
theorem ann_count : ∀ (d lo : Nat) {B : List (List Int)}, lo + d = n → HB w n lo B → (∀ r ∈ B, IsVec w n r) →
    ∃ L : List (List Int), L.Nodup ∧ (∀ v, v ∈ L ↔ IsVec w n v ∧ (∀ i, i < lo → ix v i = 0) ∧ Ann w n B (ix v)) ∧ (L.length : Int) * cntP w B 1 = 2 ^ (w * d)
  | 0, lo, B, hd, hb, hB => by
    obtain rfl := hb_empty hb (by omega)
    refine ⟨[List.replicate n 0], List.pairwise_singleton _ _, fun v => ?_, by simp [cntP]⟩
    rw [List.mem_singleton]
    constructor
    · rintro rfl
      exact ⟨isVec_zero, fun i _ => ix_zero, fun s hs => nomatch hs⟩
    · rintro ⟨hv, hz, _⟩
      exact vec_ext hv.1 (isVec_zero (w := w)).1 fun i hi => by rw [hz i (by omega), ix_zero]
  | d + 1, lo, B, hd, hb, hB => by
    have hlo : lo < n := by omega
    by_cases hc : HB w n (lo + 1) B
    · obtain ⟨L, l1, l2, l3⟩ := ann_count d (lo + 1) (by omega) hc hB
      have hz : ∀ s ∈ B, ix s lo = 0 := hc.zero (by omega)
      have q := lift_ok (k := w) (a := fun _ => 0) (P := fun v => Ann w n B (ix v)) hlo (Nat.le_refl w) (fun _ => ⟨by decide, pow_pos2 _⟩) l1 (fun v => by
        rw [l2 v]
        exact ⟨fun ⟨a, b, c⟩ => ⟨a, fun i hi => b i (by omega), c⟩, fun ⟨a, b, c⟩ => ⟨a, fun i hi => b i (by omega), c⟩⟩)
      refine ⟨_, q.1, fun v => (q.2 v).trans ?_, ?_⟩
      · refine and_congr_right fun hv => and_congr_right fun _ => ?_
        rw [Nat.sub_self]
        have e : ∀ s ∈ B, ((2 : Int) ^ w ∣ dot n (ix v) (ix s) ↔ (2 : Int) ^ w ∣ dot n (ix (v.set lo 0)) (ix s)) := fun s hs => by
          have h1 := dot_set (w := w) hv.1 hlo (ix s)
          rw [hz s hs] at h1
          exact ⟨fun h => dv2 1 (-1) h h1 (by grind), fun h => dv2 1 1 h h1 (by grind)⟩
        exact ⟨fun h s hs => (e s hs).mpr (h.1 s hs), fun h => ⟨fun s hs => (e s hs).mp (h s hs), ⟨ix v lo - 0, by grind⟩⟩⟩
      · rw [lift_len, Nat.mul_succ, Int.pow_add, ← l3]
        push_cast
        grind
    · cases B with
      | nil => exact (hc trivial).elim
      | cons r rs =>
        obtain ⟨c, hc0, hl, ht, hq, hs⟩ := hb
        have hcl : c = lo := by
          rcases Nat.lt_or_ge lo c with q | q
          · exact (hc ⟨c, q, hl, ht, hq, hs⟩).elim
          · omega
        subst hcl
        obtain ⟨L, l1, l2, l3⟩ := ann_count d (c + 1) (by omega) ht (fun s hs => hB s (List.mem_cons_of_mem _ hs))
        obtain ⟨k, hk, ek, eq⟩ := lead_count hl
        have hk' := Nat.le_of_lt hk
        have rz : ∀ s ∈ rs, ix s c = 0 := ht.zero (by omega)
        have pp := pow_pos2 (w - k)
        have q := lift_ok (k := k) (a := fun u => (-(dot n (ix u) (ix r) / 2 ^ k)) % 2 ^ (w - k)) (P := fun v => Ann w n rs (ix v)) hlo hk' (fun _ => ⟨Int.emod_nonneg _ (Int.ne_of_gt pp), Int.emod_lt_of_pos _ pp⟩) l1 (fun v => by
          rw [l2 v]
          exact ⟨fun ⟨a, b, c⟩ => ⟨a, fun i hi => b i (by omega), c⟩, fun ⟨a, b, c⟩ => ⟨a, fun i hi => b i (by omega), c⟩⟩)
        refine ⟨_, q.1, fun v => (q.2 v).trans ?_, ?_⟩
        · refine and_congr_right fun hv => and_congr_right fun _ => ?_
          have e : ∀ s ∈ rs, ((2 : Int) ^ w ∣ dot n (ix v) (ix s) ↔ (2 : Int) ^ w ∣ dot n (ix (v.set c 0)) (ix s)) := fun s hs => by
            have h1 := dot_set (w := w) hv.1 hlo (ix s)
            rw [rz s hs] at h1
            exact ⟨fun h => dv2 1 (-1) h h1 (by grind), fun h => dv2 1 1 h h1 (by grind)⟩
          have h1 := dot_set (w := w) hv.1 hlo (ix r)
          rw [ek] at h1
          have ew : (2 : Int) ^ w = 2 ^ (w - k) * 2 ^ k := by rw [← Int.pow_add]; congr 1; omega
          have main : Ann w n rs (ix (v.set c 0)) → ((2 : Int) ^ w ∣ dot n (ix v) (ix r) ↔ (2 : Int) ^ (w - k) ∣ ix v c - (-(dot n (ix (v.set c 0)) (ix r) / 2 ^ k)) % 2 ^ (w - k)) := fun hA => by
            have h2 := hA.sp hs
            rw [ek, pow_div hk'] at h2
            have h3 := dot_linR (v := ix (v.set c 0)) (2 ^ (w - k)) 0 (ix r) (ix r) n
            have h4 : (2 : Int) ^ w ∣ 2 ^ (w - k) * dot n (ix (v.set c 0)) (ix r) := by
              have h5 : (2 : Int) ^ w ∣ dot n (ix (v.set c 0)) (fun i => 2 ^ (w - k) * ix r i + 0 * ix r i) := by
                have e5 : (fun i => (2 : Int) ^ (w - k) * ix r i + 0 * ix r i) = fun i => 2 ^ (w - k) * ix r i := by funext i; grind
                rw [e5]; exact h2
              rw [h3] at h5
              exact dv1 1 h5 (by grind)
            rw [ew] at h4
            have h6 : (2 : Int) ^ k ∣ dot n (ix (v.set c 0)) (ix r) := Int.dvd_of_mul_dvd_mul_left (Int.ne_of_gt pp) h4
            obtain ⟨t, et⟩ := h6
            rw [et, Int.mul_ediv_cancel_left _ (Int.ne_of_gt (pow_pos2 k))]
            rw [et] at h1
            have h7 := emod_sub (a := -t) (M := 2 ^ (w - k))
            have h8 : (2 : Int) ^ w ∣ dot n (ix v) (ix r) ↔ (2 : Int) ^ w ∣ (ix v c + t) * 2 ^ k := ⟨fun h => dv2 1 (-1) h h1 (by grind), fun h => dv2 1 1 h h1 (by grind)⟩
            rw [h8, ew]
            have h9 : (2 : Int) ^ (w - k) * 2 ^ k ∣ (ix v c + t) * 2 ^ k ↔ (2 : Int) ^ (w - k) ∣ ix v c + t := ⟨Int.dvd_of_mul_dvd_mul_right (Int.ne_of_gt (pow_pos2 k)), fun h => Int.mul_dvd_mul h (Int.dvd_refl _)⟩
            rw [h9]
            exact ⟨fun h => dv2 1 (-1) h h7 (by grind), fun h => dv2 1 1 h h7 (by grind)⟩
          constructor
          · rintro ⟨hA, hd⟩ s hs
            rcases List.mem_cons.mp hs with q | q
            · subst q; exact (main hA).mpr hd
            · exact (e s q).mpr (hA s q)
          · intro h
            have hA : Ann w n rs (ix (v.set c 0)) := fun s hs => (e s hs).mp (h s (List.mem_cons_of_mem _ hs))
            exact ⟨hA, (main hA).mp (h r List.mem_cons_self)⟩
        · rw [lift_len, Nat.mul_succ, Int.pow_add, ← l3]
          have e1 : cntP w (r :: rs) 1 = 2 ^ (w - k) * cntP w rs 1 := by
            show cntP w rs (1 * _) = _
            rw [eq, Int.one_mul, ← cntP_mul, Int.mul_one]
          have ew : (2 : Int) ^ w = 2 ^ (w - k) * 2 ^ k := by rw [← Int.pow_add]; congr 1; omega
          rw [e1, ew]
          push_cast
          grind
theorem len_of_mem {α : Type} {L M : List α} (hL : L.Nodup) (hM : M.Nodup) (h : ∀ v, v ∈ L ↔ v ∈ M) : L.length = M.length := ((List.perm_ext_iff_of_nodup hL hM).mpr h).length_eq
/-- a module and its annihilator -/
theorem cnt_ann {B A : List (List Int)} (hB : Bas w n B) (hA : Bas w n A) (h : ∀ f, SpB w n A f ↔ Ann w n B f) : cntP w B 1 * cntP w A 1 = 2 ^ (w * n) := by
  obtain ⟨L, l1, l2, l3⟩ := ann_count n 0 (by omega) hB.2 hB.1
  obtain ⟨m1, m2, m3, m4⟩ := memF_ok hA
  have e : L.length = (memF w n A).length := len_of_mem l1 m2 fun v => by
    rw [l2 v]
    constructor
    · rintro ⟨a, _, b⟩
      exact (m3 v a).mpr ((h _).mpr b)
    · intro q
      have hv := m1 v q
      exact ⟨hv, fun i hi => by omega, (h _).mp ((m3 v hv).mp q)⟩
  rw [← l3, e, m4, Int.mul_comm]
/-- sum and intersection -/
theorem cnt_sum {A B S C : List (List Int)} (hA : Bas w n A) (hB : Bas w n B) (hS : Bas w n S) (hC : Bas w n C) (h1 : ∀ f, SpB w n S f ↔ SpB w n (A ++ B) f) (h2 : ∀ f, SpB w n C f ↔ SpB w n A f ∧ SpB w n B f) :
    cntP w A 1 * cntP w B 1 = cntP w S 1 * cntP w C 1 := by
  obtain ⟨a1, a2, a3, a4⟩ := memF_ok hA
  obtain ⟨b1, b2, b3, b4⟩ := memF_ok hB
  obtain ⟨s1, s2, s3, s4⟩ := memF_ok hS
  obtain ⟨c1, c2, c3, c4⟩ := memF_ok hC
  have split : ∀ {A B : List (List Int)} {f : Fn}, SpB w n (A ++ B) f → ∃ g, SpB w n A g ∧ SpB w n B (fun i => f i - g i) := by
    intro A B f h
    induction h with
    | zero h0 => exact ⟨fun _ => 0, .zero fun i _ => dv0 rfl, .zero fun i hi => dv1 1 (h0 i hi) (by grind)⟩
    | @add x v s k hs h1 h2 ih =>
      obtain ⟨g, g1, g2⟩ := ih
      rcases List.mem_append.mp hs with q | q
      · exact ⟨fun i => g i + k * ix s i, .add (k := k) q g1 fun i _ => dv0 (by grind), g2.congr fun i hi => dv1 1 (h2 i hi) (by grind)⟩
      · exact ⟨g, g1, .add (k := k) q g2 fun i hi => dv1 1 (h2 i hi) (by grind)⟩
  have toV : ∀ {T : List (List Int)} {f : Fn}, (∀ r ∈ T, IsVec w n r) → SpB w n T f → ∃ u, IsVec w n u ∧ SpB w n T (ix u) ∧ ∀ i, i < n → (2 : Int) ^ w ∣ ix u i - f i := fun {T f} _ h => by
    have pp := pow_pos2 w
    have e : ∀ i, i < n → ix ((List.range n).map fun i => f i % 2 ^ w) i = f i % 2 ^ w := fun i hi => by
      unfold ix
      simp [List.getD_eq_getElem?_getD, hi]
    refine ⟨(List.range n).map fun i => f i % 2 ^ w, ⟨by simp, fun x hx => ?_⟩, h.congr fun i hi => ?_, fun i hi => ?_⟩
    · obtain ⟨i, _, rfl⟩ := List.mem_map.mp hx
      exact ⟨Int.emod_nonneg _ (Int.ne_of_gt pp), Int.emod_lt_of_pos _ pp⟩
    · rw [e i hi]; exact emod_sub
    · rw [e i hi]; exact emod_sub
  have sec : ∀ y, ∃ a, y ∈ memF w n S → IsVec w n a ∧ SpB w n A (ix a) ∧ ∃ b, IsVec w n b ∧ SpB w n B (ix b) ∧ ∀ i, i < n → (2 : Int) ^ w ∣ ix y i - (ix a i + ix b i) := fun y => by
    by_cases hy : y ∈ memF w n S
    · obtain ⟨g, g1, g2⟩ := split ((h1 _).mp ((s3 y (s1 y hy)).mp hy))
      obtain ⟨a, p1, p2, p3⟩ := toV hA.1 g1
      obtain ⟨b, q1, q2, q3⟩ := toV hB.1 g2
      exact ⟨a, fun _ => ⟨p1, p2, b, q1, q2, fun i hi => dv2 (-1) (-1) (p3 i hi) (q3 i hi) (by grind)⟩⟩
    · exact ⟨[], fun h => (hy h).elim⟩
  have ⟨sa, hsa⟩ := Classical.axiomOfChoice sec
  have sec2 : ∀ y, ∃ b, y ∈ memF w n S → IsVec w n b ∧ SpB w n B (ix b) ∧ ∀ i, i < n → (2 : Int) ^ w ∣ ix y i - (ix (sa y) i + ix b i) := fun y => by
    by_cases hy : y ∈ memF w n S
    · obtain ⟨_, _, b, hb⟩ := hsa y hy
      exact ⟨b, fun _ => hb⟩
    · exact ⟨[], fun h => (hy h).elim⟩
  have ⟨sb, hsb⟩ := Classical.axiomOfChoice sec2
  let X := (memF w n A).flatMap fun a => (memF w n B).map fun b => (a, b)
  let Y := (memF w n S).flatMap fun y => (memF w n C).map fun c => (addV w (sa y) 1 c, addV w (sb y) (-1) c)
  have lenX : X.length = (memF w n A).length * (memF w n B).length := by
    show ((memF w n A).flatMap _).length = _
    generalize memF w n A = L
    induction L with
    | nil => simp
    | cons x xs ih => rw [List.flatMap_cons, List.length_append, ih, List.length_map, List.length_cons, Nat.succ_mul]; omega
  have lenY : Y.length = (memF w n S).length * (memF w n C).length := by
    show ((memF w n S).flatMap _).length = _
    generalize memF w n S = L
    induction L with
    | nil => simp
    | cons x xs ih => rw [List.flatMap_cons, List.length_append, ih, List.length_map, List.length_cons, Nat.succ_mul]; omega
  have nX : X.Nodup := List.pairwise_flatMap.mpr ⟨fun a _ => List.pairwise_map.mpr (b2.imp fun hne e => hne (by injection e)), a2.imp fun hne x hx y hy e => by
    obtain ⟨_, _, rfl⟩ := List.mem_map.mp hx
    obtain ⟨_, _, rfl⟩ := List.mem_map.mp hy
    injection e with e1 _
    exact hne e1⟩
  have nY : Y.Nodup := by
    refine List.pairwise_flatMap.mpr ⟨fun y hy => List.pairwise_map.mpr (c2.imp_of_mem fun {c c'} hc hc' hne e => hne ?_), s2.imp_of_mem fun {y y'} hy hy' hne p hp q hq e => hne ?_⟩
    · injection e with e1 _
      have v := c1 c hc
      have v' := c1 c' hc'
      refine vec_eq v v' fun i hi => ?_
      have g1 := addV_mod (w := w) (f := 1) (hsa y hy).1.1 v.1 hi
      have g2 := addV_mod (w := w) (f := 1) (hsa y hy).1.1 v'.1 hi
      rw [e1] at g1
      exact dv2 (-1) 1 g1 g2 (by grind)
    · obtain ⟨c, hc, rfl⟩ := List.mem_map.mp hp
      obtain ⟨c', hc', rfl⟩ := List.mem_map.mp hq
      injection e with e1 e2
      have v := c1 c hc
      have v' := c1 c' hc'
      refine vec_eq (s1 y hy) (s1 y' hy') fun i hi => ?_
      have g1 := addV_mod (w := w) (f := 1) (hsa y hy).1.1 v.1 hi
      have g2 := addV_mod (w := w) (f := -1) (hsb y hy).1.1 v.1 hi
      have g3 := addV_mod (w := w) (f := 1) (hsa y' hy').1.1 v'.1 hi
      have g4 := addV_mod (w := w) (f := -1) (hsb y' hy').1.1 v'.1 hi
      rw [← e1] at g3
      rw [← e2] at g4
      have g5 := (hsb y hy).2.2 i hi
      have g6 := (hsb y' hy').2.2 i hi
      have g7 := dv2 1 1 g1 g2 rfl
      have g8 := dv2 1 1 g3 g4 rfl
      have g9 := dv2 1 (-1) g5 g6 rfl
      exact dv3 (-1) 1 1 g7 g8 g9 (by grind)
  have mem : ∀ p, p ∈ X ↔ p ∈ Y := by
    rintro ⟨a, b⟩
    constructor
    · intro h
      obtain ⟨a', ha, h⟩ := List.mem_flatMap.mp h
      obtain ⟨b', hb, e⟩ := List.mem_map.mp h
      injection e with e1 e2
      subst e1 e2
      have va := a1 _ ha
      have vb := b1 _ hb
      have pa := (a3 _ va).mp ha
      have pb := (b3 _ vb).mp hb
      have vy : IsVec w n (addV w a' 1 b') := isVec_addV va.1 vb.1
      have hy : addV w a' 1 b' ∈ memF w n S := (s3 _ vy).mpr ((h1 _).mpr (((pa.mono fun s hs => List.mem_append_left _ hs).plus (pb.mono fun s hs => List.mem_append_right _ hs)).congr fun i hi => dv1 1 (addV_mod (w := w) (f := 1) va.1 vb.1 hi) (by grind)))
      obtain ⟨va', pa', _⟩ := hsa _ hy
      obtain ⟨vb', pb', hyy⟩ := hsb _ hy
      have hya : ∀ i, i < n → (2 : Int) ^ w ∣ ix (addV w a' 1 b') i - (ix a' i + 1 * ix b' i) := fun i hi => addV_mod va.1 vb.1 hi
      generalize addV w a' 1 b' = y at *
      have hyab : ∀ i, i < n → (2 : Int) ^ w ∣ ix a' i + ix b' i - (ix (sa y) i + ix (sb y) i) := fun i hi => dv2 1 (-1) (hyy i hi) (hya i hi) (by grind)
      have hc : IsVec w n (addV w a' (-1) (sa y)) := isVec_addV va.1 va'.1
      have cm : ∀ i, i < n → (2 : Int) ^ w ∣ ix (addV w a' (-1) (sa y)) i - (ix a' i + -1 * ix (sa y) i) := fun i hi => addV_mod va.1 va'.1 hi
      have hcm : addV w a' (-1) (sa y) ∈ memF w n C := (c3 _ hc).mpr ((h2 _).mpr ⟨(pa.comb pa' 1 (-1)).congr fun i hi => dv1 1 (cm i hi) (by grind), (pb'.comb pb 1 (-1)).congr fun i hi => dv2 1 1 (cm i hi) (hyab i hi) (by grind)⟩)
      refine List.mem_flatMap.mpr ⟨y, hy, List.mem_map.mpr ⟨_, hcm, ?_⟩⟩
      generalize addV w a' (-1) (sa y) = c at *
      have hc1 := hc.1
      congr 1
      · exact vec_eq (isVec_addV va'.1 hc1) va fun i hi => dv2 1 1 (addV_mod (w := w) (f := 1) va'.1 hc1 hi) (cm i hi) (by grind)
      · exact vec_eq (isVec_addV vb'.1 hc1) vb fun i hi => dv3 1 (-1) (-1) (addV_mod (w := w) (f := -1) vb'.1 hc1 hi) (cm i hi) (hyab i hi) (by grind)
    · intro h
      obtain ⟨y, hy, h⟩ := List.mem_flatMap.mp h
      obtain ⟨c, hc, e⟩ := List.mem_map.mp h
      injection e with e1 e2
      subst e1 e2
      obtain ⟨va', pa', _⟩ := hsa _ hy
      obtain ⟨vb', pb', _⟩ := hsb _ hy
      have vc := c1 _ hc
      obtain ⟨ca, cb⟩ := (h2 _).mp ((c3 _ vc).mp hc)
      have vA : IsVec w n (addV w (sa y) 1 c) := isVec_addV va'.1 vc.1
      have vB : IsVec w n (addV w (sb y) (-1) c) := isVec_addV vb'.1 vc.1
      refine List.mem_flatMap.mpr ⟨_, (a3 _ vA).mpr ((pa'.comb ca 1 1).congr fun i hi => dv1 1 (addV_mod (w := w) (f := 1) va'.1 vc.1 hi) (by grind)), List.mem_map.mpr ⟨_, (b3 _ vB).mpr ((pb'.comb cb 1 (-1)).congr fun i hi => dv1 1 (addV_mod (w := w) (f := -1) vb'.1 vc.1 hi) (by grind)), rfl⟩⟩
  have := len_of_mem nX nY mem
  rw [lenX, lenY] at this
  have e : ((memF w n A).length : Int) * (memF w n B).length = (memF w n S).length * (memF w n C).length := by exact_mod_cast this
  rw [a4, b4, s4, c4] at e
  exact e
end
end DL
end
section
namespace DL
open PySem PySem.Spec PyProof.Rows L2 WM
section
variable {X : Cx} {F : Hp} {ρ : Rho} {a b c e f o tg iter : Expr} {es : List Expr} {rest sts : List Stmt} {pos p2 p apos pos' tpos : Pos} {d d1 d2 d3 : PyData} {ds : List PyData} {xs : List Slot} {y r : Slot} {x m : Str} {v u : V} {C : Addr} {sp : Sp} {k j : Nat} {D : Ends} {σ : L2.St} {H : Hp}
theorem ws_skip {t : Bool} (hc : TD X F ρ c t) (ht : t = false) (E : EnvOk X.K F H σ ρ) (h : ∀ H', Same H H' → D.nx σ H') : wS X (.If c sts [] pos) D σ H := by
  refine ofS (ps_if pt_w pb_w pb_w) ?_
  refine hc σ H _ E fun H1 e1 => ?_
  rw [ht, if_neg Bool.false_ne_true]
  exact wb_nil (h H1 e1)
theorem ws_set (i : Nat) (h : EX X F ρ e r) (E : EnvOk X.K F H σ ρ) (k : ∀ v H', Same H H' → EnvOk X.K F H' (σ.set i (some v)) (ρ.set i (some r)) → D.nx (σ.set i (some v)) H') (hN : X.N.Nodup) (hi : X.N[i]? = some x := by rfl) (hx : Loc X.env.scope x := by first | exact Or.inl rfl | exact Or.inr rfl)
    (hs : swapsWith e (some (.Name x p)) pos.line X.env = pure false := by rfl) (hf : X.fn x = true ∨ X.env.scope.names.lookup x = some .local := by first | exact .inl rfl | exact .inr rfl) : wS X (.Assign [.Name x p] e pos) D σ H :=
  ofS (ps_set hN hi hx pe_w hs hf) (h σ H _ E fun v H' e1 dv => k v H' e1 ((E.mono e1).setS dv))
theorem we_sortedV {L : List (List Int)} {Q : VK} (hm : X.mg "sorted" = none) (hu : X.A.units + 64 < cLine) (h : ED X F ρ e (dLM L)) (hne : ∀ r ∈ L, r ≠ []) (hl : L.length ≤ 100000) (E : EnvOk X.K F H σ ρ)
    (k : ∀ p xs H', Same H H' → H' p = some (.lst xs) → DpAll X.K H' xs ((sortV L).map fun r => dV r) → Q (.ref p) H') (hg : Gl X "sorted" := by rfl) (he : starEach [e] X.env = (false, eval e X.env) :: starEach [] X.env := by rfl) : wE X (.Call (.Name "sorted" p) [e] [] pos) σ H Q := by
  refine ofE (pe_callB (cr_sortedV hu) hg hm (by decide +kernel) (pa_cons pe_w pa_nil he) (by decide) (by decide) he rfl) ?_
  refine h σ H _ E fun v H1 e1 dv => ?_
  obtain ⟨q, xs, rfl, hq, hx⟩ := dp_lst dv
  obtain ⟨bs, rfl, rfl, hb⟩ := dpA_zip hx
  refine ⟨q, bs, rfl, hq, hb, fun b hb' => hne _ (List.mem_map.mpr ⟨b, hb', rfl⟩), by simpa using hl, fun p hp => ?_⟩
  have pm := List.mergeSort_perm bs (PySem.W.dataLe false fun b : V × List Int => dV b.2)
  have es : sortV (bs.map (·.2)) = (bs.mergeSort (PySem.W.dataLe false fun b : V × List Int => dV b.2)).map (·.2) := by
    refine sortV_eq (pm.map _) (List.pairwise_map.mpr ?_)
    rw [dataLe_V]
    exact (List.pairwise_mergeSort (le := fun a b : V × List Int => decide (a.2 ≤ b.2)) (fun a b c h1 h2 => by simp at *; exact List.le_trans h1 h2) (fun a b => by simpa using List.le_total a.2 b.2) bs).imp fun h => by simpa using h
  refine k p _ _ (e1.trans (Same.new hp)) upd_same ?_
  rw [es]
  exact zip_dpA fun b hb' => dp_mono (Same.new hp) (hb b (pm.mem_iff.mp hb'))
/-- list(o.m()) of a generator method -/
theorem ed_listG {m : Str} {n mm : Nat} {B : List (List Int)} {g : Addr} {fd : FuncData} {ps : List Str} {spg : L2.SpG} {ds : List PyData} {k : Nat} {pl : Sem Bool} {nm : Str} (ho : EX X F ρ o (sMo X.K C n mm B)) (c : Cls X.K C) (hm : Meth X.K C m g) (FG : GFn X.prog X.w X.K X.mg X.base k g fd ps spg) (hbn : Binds X.K fd ps []) (hr : Room j X.A) (hk : k + 3 ≤ j)
    (hsp : ∀ x H (cont : List V → Hp → Prop), SlotOk X.K H x (sMo X.K C n mm B) → (∀ out H', Same H H' → DpAll X.K H' out ds → cont out H') → spg [x] H cont (fun _ _ _ => False)) (hl : ∀ v, (MoF n mm v).lookup m = none := by intro _; rfl)
    (hmg : X.mg nm = none) (hv : bootBuiltins nm = some (.type "list")) (hg : Gl X nm := by rfl) (hnm : nm ≠ "__name__" := by decide) (hdb : (nm == ("__debug__" : Str)) = false := by decide)
    (he : starEach [.Call (.Attribute o m apos) [] [] pos'] X.env = (false, eval (.Call (.Attribute o m apos) [] [] pos') X.env) :: starEach [] X.env := by rfl)
    (ht : eval (.Call (.Attribute o m apos) [] [] pos') X.env = (do
      let ov ← eval o X.env
      standAt apos.atName
      let (f, first) ← holding [ov] (getMethod ov m pl)
      callWith pos' f first (backTo pos' (starEach [] X.env)) (backToKw pos' (keywordEach [] X.env))) := by rfl) :
    ED X F ρ (.Call (.Name nm p) [.Call (.Attribute o m apos) [] [] pos'] [] pos) (.list ds) := fun σ H Q E k => by
  refine ofE (pe_listG (pgen_meth0 (pl := pl) pe_w c hm FG (hr.mono (by omega)) hbn .nil ht) (E := fun _ _ _ => False) ?_ (fun _ _ _ z => z.elim) (hr.mono hk) hg hmg hv hnm hdb he) ?_
  · intro pins σ1 H1 s1 er s' I hq
    obtain ⟨_, _, _, _, _, _, _, _, _, _, _, _, hW⟩ := hq
    exact hW.elim
  · refine ho σ H _ E fun v H1 e1 hv => ?_
    obtain ⟨q, dx, u, rfl, e2, e3⟩ := hv.p
    refine ⟨q, dx, _, rfl, e2, hl _, ?_⟩
    refine hsp _ H1 _ hv fun out H2 e4 dvs p hp => ?_
    exact k _ _ ((e1.trans e4).trans (Same.new hp)) (.lst (SqL.of upd_same) (dpA_mono (Same.new hp) dvs))
end
end DL
end
section
namespace DL
open PySem PySem.Spec PyProof.Rows L2 WM
/-! ### a list of three numbers that changes while values are drawn -/
def Str3 (H : Hp) (a : Addr) (N : Nat) : Prop := ∃ s0 s1 s2 : Int, H a = some (.lst [.int s0, .int s1, .int s2]) ∧ (0 ≤ s1 ∧ s1 < 2 ^ 31) ∧ (0 ≤ s2 ∧ s2 ≤ N)
theorem Str3.mono {H : Hp} {a : Addr} {N N' : Nat} (h : Str3 H a N) (hn : N ≤ N') : Str3 H a N' := by
  obtain ⟨s0, s1, s2, h1, h2, h3⟩ := h
  exact ⟨s0, s1, s2, h1, h2, by omega⟩
theorem Str3.same {H H' : Hp} {a : Addr} {N : Nat} (h : Str3 H a N) (e : Same H H') : Str3 H' a N := by
  obtain ⟨s0, s1, s2, h1, h2⟩ := h
  exact ⟨s0, s1, s2, e _ _ h1, h2⟩
theorem Str3.keep {S : Addr → Prop} {H H' : Hp} {a : Addr} {N : Nat} (h : Str3 H a N) (e : Keep S H H') (n : ¬ S a) : Str3 H' a N := by
  obtain ⟨s0, s1, s2, h1, h2⟩ := h
  exact ⟨s0, s1, s2, e _ _ h1 n, h2⟩
theorem Str3.ti {K : PySem.W.Frag} {H H' : Hp} {a : Addr} {N : Nat} (h : Str3 H a N) (k : Keep (· = a) H H') : TI K H H' := by
  obtain ⟨s0, s1, s2, h1, _⟩ := h
  exact ⟨k.tk fun b hb => by rw [hb, h1]; trivial, fun b C dx fs hb => k _ _ hb fun z => by rw [z, h1] at hb; cases hb⟩
def hole (H : Hp) (a : Addr) : Hp := fun b => if b = a then none else H b
theorem hole_at {H : Hp} {a : Addr} : hole H a a = none := if_pos rfl
theorem hole_ne {H : Hp} {a b : Addr} (h : b ≠ a) : hole H a b = H b := if_neg h
theorem hole_same {H : Hp} {a : Addr} : Same (hole H a) H := fun b o e => by
  unfold hole at e
  split at e
  · cases e
  · exact e
theorem hole_keep {H : Hp} {a : Addr} : Keep (· = a) H (hole H a) := fun b o e n => by rw [hole_ne n]; exact e
theorem same_hole {F H : Hp} {a : Addr} (e : Same F H) (h : F a = none) : Same F (hole H a) := fun b o hb => by rw [hole_ne (fun z => by rw [z, h] at hb; cases hb)]; exact e b o hb
structure ES (K : PySem.W.Frag) (F : Hp) (a : Addr) (N : Nat) (H : Hp) (σ : L2.St) (ρ : Rho) : Prop where
  env : EnvOk K F H σ ρ
  str : Str3 H a N
  off : F a = none
  im : immRX K ρ
theorem ES.step {K : PySem.W.Frag} {F H H' : Hp} {a : Addr} {N N' : Nat} {σ : L2.St} {ρ : Rho} (E : ES K F a N H σ ρ) (k : Keep (· = a) H H') (s : Str3 H' a N') : ES K F a N' H' σ ρ :=
  ⟨E.env.ti (E.str.ti k) E.im (fun b o hb => k _ _ (E.env.2.2 b o hb) (fun z => by rw [z, E.off] at hb; cases hb)), s, E.off, E.im⟩
theorem ES.same {K : PySem.W.Frag} {F H H' : Hp} {a : Addr} {N : Nat} {σ : L2.St} {ρ : Rho} (E : ES K F a N H σ ρ) (e : Same H H') : ES K F a N H' σ ρ := E.step (Keep.of e) (E.str.same e)
theorem ES.set {K : PySem.W.Frag} {F H : Hp} {a : Addr} {N : Nat} {σ : L2.St} {ρ : Rho} {i : Nat} {v : V} {x : Slot} (E : ES K F a N H σ ρ) (hv : SlotOk K H v x) (hx : immX K x) : ES K F a N H (σ.set i (some v)) (ρ.set i (some x)) := ⟨E.env.setS hv, E.str, E.off, E.im.set hx⟩
/-- the anchor may be all that stands there but the stream -/
theorem ES.anchor {K : PySem.W.Frag} {F H : Hp} {a : Addr} {N : Nat} {σ : L2.St} {ρ : Rho} (E : ES K F a N H σ ρ) : ES K (hole H a) a N H σ ρ := ⟨⟨E.env.1, E.env.2.1, hole_same⟩, E.str, hole_at, E.im⟩
def SE (X : Cx) (F : Hp) (a : Addr) (ρ : Rho) (N N' : Nat) (e : Expr) (P : PyData → Prop) : Prop := ∀ σ H Q, ES X.K F a N H σ ρ → (∀ d v H', P d → Keep (· = a) H H' → Str3 H' a N' → Dp X.K H' v d → Q v H') → wE X e σ H Q
def LP : List (PyData → Prop) → List PyData → Prop
  | [], ds => ds = []
  | P :: Ps, ds => ∃ d r, ds = d :: r ∧ P d ∧ LP Ps r
theorem LP.len : ∀ {Ps : List (PyData → Prop)} {ds : List PyData}, LP Ps ds → ds.length = Ps.length
  | [], _, h => by rw [show _ = _ from h]; rfl
  | _ :: _, _, ⟨d, r, e, _, h⟩ => by rw [e, List.length_cons, List.length_cons, LP.len h]
theorem LP.at : ∀ {Ps : List (PyData → Prop)} {ds : List PyData} {i : Nat}, LP Ps ds → i < Ps.length → ∃ d P, ds[i]? = some d ∧ P ∈ Ps ∧ P d
  | P :: Ps, _, 0, ⟨d, r, e, h1, _⟩, _ => ⟨d, P, by rw [e]; rfl, List.mem_cons_self, h1⟩
  | P :: Ps, _, i + 1, ⟨d, r, e, _, h2⟩, hi => by
    obtain ⟨d', P', h3, h4, h5⟩ := LP.at (i := i) h2 (by simpa using hi)
    exact ⟨d', P', by rw [e]; simpa using h3, List.mem_cons_of_mem _ h4, h5⟩
def SEA (X : Cx) (F : Hp) (a : Addr) (ρ : Rho) (N N' : Nat) (es : List Expr) (Ps : List (PyData → Prop)) : Prop := ∀ σ H Q, ES X.K F a N H σ ρ → (∀ ds vs H', LP Ps ds → Keep (· = a) H H' → Str3 H' a N' → DpAll X.K H' vs ds → Q vs H') → wA X es σ H Q
section
variable {X : Cx} {F : Hp} {ρ : Rho} {c e f o e1 e2 tg iter elt : Expr} {es : List Expr} {rest sts : List Stmt} {pos p2 p apos pos' tpos : Pos} {d d1 d2 d3 : PyData} {ds : List PyData} {x y : Str} {v u : V} {a : Addr} {N N' N2 k j i : Nat} {D : Ends} {P P' P1 P2 : PyData → Prop} {Ps : List (PyData → Prop)}
theorem se_imp (h : SE X F a ρ N N' e P) (q : ∀ d, P d → P' d) (hn : N' ≤ N2) : SE X F a ρ N N2 e P' := fun σ H Q E k => h σ H Q E fun d v H' hp kp s dv => k d v H' (q d hp) kp (s.mono hn) dv
theorem se_ed (h : ED X F ρ e d) : SE X F a ρ N N e (· = d) := fun σ H Q E k => h σ H Q E.env fun v H' e1 dv => k d v H' rfl (Keep.of e1) (E.str.same e1) dv
theorem sea_nil : SEA X F a ρ N N [] [] := fun σ H Q E k => ofA pa_nil (k [] _ _ rfl (Keep.of (Same.refl H)) E.str .nil)
theorem sea_cons (h1 : SE X F a ρ N N' e P) (h2 : SEA X F a ρ N' N2 es Ps) (him : ∀ d, P d → imm d = true) (hs : starEach (e :: es) X.env = (false, eval e X.env) :: starEach es X.env := by rfl) : SEA X F a ρ N N2 (e :: es) (P :: Ps) := fun σ H Q E k => by
  refine ofA (pa_cons pe_w pa_w hs) ?_
  refine h1 σ H _ E fun d v H1 hp k1 s1 dv => ?_
  refine h2 σ H1 _ (E.step k1 s1) fun ds vs H2 hps k2 s2 dvs => ?_
  exact k (d :: ds) _ _ ⟨d, ds, rfl, hp, hps⟩ (k1.trans k2) s2 (.cons (dp_tk (s1.ti k2 : TI X.K H1 H2).1 d (him d hp) dv) dvs)
/-- [e, ..][e] -/
theorem se_ixL (h1 : SEA X F a ρ N N' es Ps) (h2 : SE X F a ρ N' N2 e fun d => ∃ i : Nat, d = .int (i : Int) ∧ i < Ps.length) (him : ∀ P ∈ Ps, ∀ d, P d → imm d = true) (hl : Ps.length ≤ 1000 := by decide) (hs : PlainIx e := by intro _ _; rfl) :
    SE X F a ρ N N2 (.Subscript (.List es p2) e pos) (fun d => ∃ P ∈ Ps, P d) := fun σ H Q E k => by
  refine ofE (pe_ix ix_list (pe_lst pa_w) pe_w hs) ?_
  refine h1 σ H _ E fun ds vs H1 hps k1 s1 dvs => ⟨by rw [dpA_len dvs, hps.len]; exact Nat.le_trans hl (by decide), fun q hq => ?_⟩
  have e2 : Same H1 (upd H1 q (.lst vs)) := Same.new hq
  refine h2 σ _ _ ((E.step k1 s1).same e2) fun d v H3 ⟨i, hd, hi⟩ k3 s3 dv => ?_
  subst hd
  obtain ⟨d, P, h3, h4, h5⟩ := hps.at hi
  have na : q ≠ a := fun z => by obtain ⟨_, _, _, z2, _⟩ := s1; rw [← z, hq] at z2; cases z2
  have hq3 : H3 q = some (.lst vs) := k3 _ _ upd_same na
  obtain ⟨u, hu, du⟩ := dpA_get dvs h3
  have t : TI X.K H1 H3 := ⟨(TK.of e2).trans ((s1.same e2).ti k3 : TI X.K _ H3).1, fun b C dx fs hb => ((s1.same e2).ti k3 : TI X.K _ H3).2 _ _ _ _ (e2 _ _ hb)⟩
  refine ⟨q, vs, (i : Int), u, rfl, dp_int dv, SqL.of hq3, atI_nat hu, ?_⟩
  exact k d u H3 ⟨P, h4, h5⟩ ((k1.trans (Keep.of e2)).trans k3) s3 (dp_tk t.1 d (him P h4 d h5) du)
theorem se_add (h1 : SE X F a ρ N N' e1 P1) (h2 : SE X F a ρ N' N2 e2 P2) (q1 : ∀ d, P1 d → ∃ i : Int, d = .int i) (q2 : ∀ d, P2 d → ∃ i : Int, d = .int i) : SE X F a ρ N N2 (.BinOp e1 .Add e2 pos) (fun d => ∃ i j : Int, P1 (.int i) ∧ P2 (.int j) ∧ d = .int (i + j)) := fun σ H Q E k => by
  refine ofE (pe_op op_add pe_w pe_w) ?_
  refine h1 σ H _ E fun d v H1 hp k1 s1 dv => ?_
  refine h2 σ H1 _ (E.step k1 s1) fun d' v' H2 hp' k2 s2 dv' => ?_
  obtain ⟨i, rfl⟩ := q1 d hp
  obtain ⟨j, rfl⟩ := q2 d' hp'
  exact ⟨i, j, dp_int dv, dp_int dv', k _ _ H2 ⟨i, j, hp, hp', rfl⟩ (k1.trans k2) s2 (.int _)⟩
/-- the promise of a def whose first argument is the stream; c: how many draws at most -/
def spSt (K : PySem.W.Frag) (cap c : Nat) (R : RelF) : Sp := fun vs H Q _ => ∃ a vs' ds P N, vs = .ref a :: vs' ∧ DpAll K H vs' ds ∧ R ds P ∧ Str3 H a N ∧ N ≤ cap ∧ ∀ d v H', P d → Keep (· = a) H H' → Str3 H' a (N + c) → Dp K H' v d → Q v H'
theorem se_call {cap cst : Nat} {R : RelF} (i : Nat) (c : Cal X.prog X.w X.K X.mg X.base k x (spSt X.K cap cst R)) (hr : Room j X.A) (hk : k ≤ j) (hi : ρ[i]? = some (some (.val (.ref a)))) (ha : EA X F ρ es ds) (hR : R ds P) (hN : N ≤ cap) (hg : Gl X x := by rfl)
    (hN2 : X.N[i]? = some y := by rfl) (hv : Vis X.env.scope y := by first | exact Or.inl rfl | exact Or.inr (Or.inl rfl) | exact Or.inr (Or.inr rfl)) (h1 : (y == ("__debug__" : Str)) = false := by decide) (h2 : (y == ("__classdict__" : Str)) = false := by decide)
    (hdb : (x == ("__debug__" : Str)) = false := by decide) (he : starEach (.Name y p2 :: es) X.env = (false, eval (.Name y p2) X.env) :: starEach es X.env := by rfl) (hpl : (backTo pos (starEach es X.env)).any (·.1) = false := by rfl) :
    SE X F a ρ N (N + cst) (.Call (.Name x p) (.Name y p2 :: es) [] pos) P := fun σ H Q E k => by
  refine ofE (pe_cal c hr hk hg (pa_cons (pe_var hN2 hv h1 h2) pa_w he) hdb he hpl) ?_
  refine ⟨_, E.env.atV hi, ?_⟩
  refine ha σ H _ E.env fun vs H1 e1 dvs => ?_
  exact ⟨a, vs, ds, P, N, by rw [List.append_nil], dvs, hR, E.str.same e1, hN, fun d v H2 hp k2 s2 dv => k d v H2 hp ((Keep.of e1).trans k2) s2 dv⟩
/-! ### blocks -/
def RS (X : Cx) (F : Hp) (a : Addr) (ρ : Rho) (N : Nat) (sts : List Stmt) (D : Ends) : Prop := ∀ σ H, ES X.K F a N H σ ρ → wB X sts D σ H
theorem rs_rb (h : RB X F ρ sts D) : RS X F a ρ N sts D := fun σ H E => h σ H E.env
theorem rb_rs (hs : Str3 F a N) (him : immRX X.K ρ) (h : RS X (hole F a) a ρ N sts D) : RB X F ρ sts D := fun σ H E => h σ H ⟨⟨E.1, E.2.1, hole_same.trans E.2.2⟩, hs.same E.2.2, hole_at, him⟩
theorem rs_set (i : Nat) (h : SE X F a ρ N N' e P) (him : ∀ d, P d → imm d = true) (k : ∀ d, P d → RS X F a (ρ.set i (some (.dat d))) N' rest D) (hN : X.N.Nodup) (hi : X.N[i]? = some x := by rfl) (hx : Loc X.env.scope x := by first | exact Or.inl rfl | exact Or.inr rfl)
    (hs : swapsWith e (some (.Name x p)) pos.line X.env = pure false := by rfl) (hf : X.fn x = true ∨ X.env.scope.names.lookup x = some .local := by first | exact .inl rfl | exact .inr rfl) : RS X F a ρ N (.Assign [.Name x p] e pos :: rest) D := fun σ H E =>
  wb_cons (ofS (ps_set hN hi hx pe_w hs hf) (h σ H _ E fun d v H1 hp k1 s1 dv => k d hp _ _ ((E.step k1 s1).set (x := .dat d) dv (.inl (him d hp)))))
/-- a, b = e1, e2 by a pair -/
theorem rs_asg2 (i j : Nat) {px py pt : Pos} {kt k2 : Nat} {pt2 : Pos} (h1 : SE X F a ρ N N' e1 P1) (h2 : SE X F a ρ N' N2 e2 P2) (i1 : ∀ d, P1 d → imm d = true) (i2 : ∀ d, P2 d → imm d = true) (k : ∀ d1 d2, P1 d1 → P2 d2 → RS X F a ((ρ.set i (some (.dat d1))).set j (some (.dat d2))) N2 rest D)
    (hc : X.calm = true) (hN : X.N.Nodup) (hi : X.N[i]? = some x := by rfl) (hj : X.N[j]? = some y := by rfl) (hx : Loc X.env.scope x := by first | exact Or.inl rfl | exact Or.inr rfl) (hy : Loc X.env.scope y := by first | exact Or.inl rfl | exact Or.inr rfl)
    (hf : X.fn x = true ∨ X.env.scope.names.lookup x = some .local := by first | exact .inl rfl | exact .inr rfl) (hf2 : X.fn y = true ∨ X.env.scope.names.lookup y = some .local := by first | exact .inl rfl | exact .inr rfl)
    (hn : (assignEach [.Name x px, .Name y py] X.env).length = 2 := by rfl) (hst : (assignEach [.Name x px, .Name y py] X.env).findIdx? (·.1) = none := by rfl)
    (hq1 : (assignEach [.Name x px, .Name y py] X.env).map (·.2) = assign (.Name x px) X.env :: (assignEach [.Name y py] X.env).map (·.2) := by rfl) (hq2 : (assignEach [.Name y py] X.env).map (·.2) = assign (.Name y py) X.env :: (assignEach [] X.env).map (·.2) := by rfl)
    (hs : swapsWithSole [.Tuple [.Name x px, .Name y py] kt pt] (.Tuple [e1, e2] k2 pt2) pos.line X.env = pure false := by rfl) (hw : swappedStores [.Tuple [.Name x px, .Name y py] kt pt] (.Tuple [e1, e2] k2 pt2) X.env = pure none := by rfl)
    (ha : (assignEach [.Tuple [.Name x px, .Name y py] kt pt] X.env).map (·.2) = [assign (.Tuple [.Name x px, .Name y py] kt pt) X.env] := by rfl)
    (hs1 : starEach [e1, e2] X.env = (false, eval e1 X.env) :: starEach [e2] X.env := by rfl) (hs2 : starEach [e2] X.env = (false, eval e2 X.env) :: starEach [] X.env := by rfl) : RS X F a ρ N (.Assign [.Tuple [.Name x px, .Name y py] kt pt] (.Tuple [e1, e2] k2 pt2) pos :: rest) D := fun σ H E =>
  wb_cons (ofS (ps_asg (pe_tup (pa_cons pe_w (pa_cons pe_w pa_nil hs2) hs1)) (pg_tup hc (pgs_cons (pg_name hN hi hx hf) (pgs_cons (pg_name hN hj hy hf2) pgs_nil hq2) hq1) hn hst) hs hw ha) (by
    refine h1 σ H _ E fun d1 v1 H1 hp1 k1 s1 dv1 => ?_
    refine h2 σ H1 _ (E.step k1 s1) fun d2 v2 H2 hp2 k2 s2 dv2 => ⟨by simp [sizeLine_eq], fun q hq => ?_⟩
    have e3 : Same H2 (upd H2 q (.tup [v1, v2])) := Same.new hq
    have dv1' := dp_tk (s1.ti k2 : TI X.K H1 H2).1 d1 (i1 d1 hp1) dv1
    have E3 := ((E.step k1 s1).step k2 s2).same e3
    refine ⟨q, [v1, v2], rfl, SqT.of upd_same, rfl, v1, [v2], rfl, v2, [], rfl, rfl, ?_⟩
    exact k d1 d2 hp1 hp2 _ _ ((E3.set (x := .dat d1) (dp_mono e3 dv1') (.inl (i1 d1 hp1))).set (x := .dat d2) (dp_mono e3 dv2) (.inl (i2 d2 hp2)))))
/-- a, b = [], e by a pair -/
theorem rs_asgL (i j : Nat) {px py pt pl : Pos} {kt k2 : Nat} {pt2 : Pos} (h2 : SE X F a ρ N N2 e2 P2) (i2 : ∀ d, P2 d → imm d = true) (k : ∀ F' l d2, P2 d2 → Same F F' → F l = none → F' l = some (.lst []) → F' a = none → RS X F' a ((ρ.set i (some (.val (.ref l)))).set j (some (.dat d2))) N2 rest D)
    (hc : X.calm = true) (hN : X.N.Nodup) (hi : X.N[i]? = some x := by rfl) (hj : X.N[j]? = some y := by rfl) (hx : Loc X.env.scope x := by first | exact Or.inl rfl | exact Or.inr rfl) (hy : Loc X.env.scope y := by first | exact Or.inl rfl | exact Or.inr rfl)
    (hf : X.fn x = true ∨ X.env.scope.names.lookup x = some .local := by first | exact .inl rfl | exact .inr rfl) (hf2 : X.fn y = true ∨ X.env.scope.names.lookup y = some .local := by first | exact .inl rfl | exact .inr rfl)
    (hn : (assignEach [.Name x px, .Name y py] X.env).length = 2 := by rfl) (hst : (assignEach [.Name x px, .Name y py] X.env).findIdx? (·.1) = none := by rfl)
    (hq1 : (assignEach [.Name x px, .Name y py] X.env).map (·.2) = assign (.Name x px) X.env :: (assignEach [.Name y py] X.env).map (·.2) := by rfl) (hq2 : (assignEach [.Name y py] X.env).map (·.2) = assign (.Name y py) X.env :: (assignEach [] X.env).map (·.2) := by rfl)
    (hs : swapsWithSole [.Tuple [.Name x px, .Name y py] kt pt] (.Tuple [.List [] pl, e2] k2 pt2) pos.line X.env = pure false := by rfl) (hw : swappedStores [.Tuple [.Name x px, .Name y py] kt pt] (.Tuple [.List [] pl, e2] k2 pt2) X.env = pure none := by rfl)
    (ha : (assignEach [.Tuple [.Name x px, .Name y py] kt pt] X.env).map (·.2) = [assign (.Tuple [.Name x px, .Name y py] kt pt) X.env] := by rfl)
    (hs1 : starEach [.List [] pl, e2] X.env = (false, eval (.List [] pl) X.env) :: starEach [e2] X.env := by rfl) (hs2 : starEach [e2] X.env = (false, eval e2 X.env) :: starEach [] X.env := by rfl) : RS X F a ρ N (.Assign [.Tuple [.Name x px, .Name y py] kt pt] (.Tuple [.List [] pl, e2] k2 pt2) pos :: rest) D := fun σ H E =>
  wb_cons (ofS (ps_asg (pe_tup (pa_cons (pe_lst pa_nil) (pa_cons pe_w pa_nil hs2) hs1)) (pg_tup hc (pgs_cons (pg_name hN hi hx hf) (pgs_cons (pg_name hN hj hy hf2) pgs_nil hq2) hq1) hn hst) hs hw ha) (by
    refine ⟨by simp [sizeLine_eq], fun l hl => ?_⟩
    have e1 : Same H (upd H l (.lst [])) := Same.new hl
    refine h2 σ _ _ (E.same e1) fun d2 v2 H2 hp2 k2 s2 dv2 => ⟨by simp [sizeLine_eq], fun q hq => ?_⟩
    have e3 : Same H2 (upd H2 q (.tup [.ref l, v2])) := Same.new hq
    have na : l ≠ a := fun z => by obtain ⟨_, _, _, z2, _⟩ := E.str; rw [← z, hl] at z2; cases z2
    have E3 := ((E.same e1).step k2 s2).same e3
    have hFl : F l = none := by
      cases z : F l with
      | none => rfl
      | some o => have := E.env.2.2 _ _ z; rw [hl] at this; cases this
    refine ⟨q, [.ref l, v2], rfl, SqT.of upd_same, rfl, .ref l, [v2], rfl, v2, [], rfl, rfl, ?_⟩
    exact k _ l d2 hp2 (same_hole E3.env.2.2 E.off) hFl (by rw [hole_ne na]; exact e3 _ _ (k2 _ _ upd_same na)) hole_at _ _ ((E3.anchor.set (x := .val (.ref l)) rfl (.inl rfl)).set (x := .dat d2) (dp_mono e3 dv2) (.inl (i2 d2 hp2)))))
/-- a, b = [], e, both plain locals -/
theorem rs_parL (i j : Nat) {px py pt pl : Pos} {kt k2 : Nat} {pt2 : Pos} (h2 : SE X F a ρ N N2 e2 P2) (i2 : ∀ d, P2 d → imm d = true) (k : ∀ F' l d2, P2 d2 → Same F F' → F l = none → F' l = some (.lst []) → F' a = none → RS X F' a ((ρ.set i (some (.val (.ref l)))).set j (some (.dat d2))) N2 rest D)
    (hc : X.calm = true) (hN : X.N.Nodup) (hij : i ≠ j := by decide) (hi : X.N[i]? = some x := by rfl) (hj : X.N[j]? = some y := by rfl)
    (hx : X.env.scope.names.lookup x = some .local := by rfl) (hy : X.env.scope.names.lookup y = some .local := by rfl)
    (hw : swappedStores [.Tuple [.Name x px, .Name y py] kt pt] (.Tuple [.List [] pl, e2] k2 pt2) X.env = pure (some [x, y]) := by rfl)
    (hs : swapsWithSole [.Tuple [.Name x px, .Name y py] kt pt] (.Tuple [.List [] pl, e2] k2 pt2) pos.line X.env = pure false := by rfl)
    (hs1 : starEach [.List [] pl, e2] X.env = (false, eval (.List [] pl) X.env) :: starEach [e2] X.env := by rfl) (hs2 : starEach [e2] X.env = (false, eval e2 X.env) :: starEach [] X.env := by rfl) : RS X F a ρ N (.Assign [.Tuple [.Name x px, .Name y py] kt pt] (.Tuple [.List [] pl, e2] k2 pt2) pos :: rest) D := fun σ H E =>
  wb_cons (ofS (ps_par hc hN hi hj hij hx hy (pa_cons (pe_lst pa_nil) (pa_cons pe_w pa_nil hs2) hs1) hw hs) (by
    refine ⟨by simp [sizeLine_eq], fun l hl => ?_⟩
    have e1 : Same H (upd H l (.lst [])) := Same.new hl
    refine h2 σ _ _ (E.same e1) fun d2 v2 H2 hp2 k2 s2 dv2 => ⟨.ref l, v2, rfl, ?_⟩
    have na : l ≠ a := fun z => by obtain ⟨_, _, _, z2, _⟩ := E.str; rw [← z, hl] at z2; cases z2
    have E3 := (E.same e1).step k2 s2
    have hFl : F l = none := by
      cases z : F l with
      | none => rfl
      | some o => have := E.env.2.2 _ _ z; rw [hl] at this; cases this
    exact k _ l d2 hp2 (same_hole E3.env.2.2 E.off) hFl (by rw [hole_ne na]; exact k2 _ _ upd_same na) hole_at _ _ ((E3.anchor.set (x := .val (.ref l)) rfl (.inl rfl)).set (x := .dat d2) dv2 (.inl (i2 d2 hp2)))))
/-- l.append(e), e drawn -/
theorem rs_append {l : Addr} {ys : List V} (i : Nat) (hi : ρ[i]? = some (some (.val (.ref l)))) (hF : F l = some (.lst ys)) (ha : SE X F a ρ N N' e P) (hl : ys.length ≤ 100000) (him : ∀ d, P d → imm d = true)
    (k : ∀ F' d v, P d → Keep (· = l) F F' → TI X.K F F' → F' l = some (.lst (ys ++ [v])) → Dp X.K F' v d → F' a = none → RS X F' a ρ N' rest D)
    (hNx : X.N[i]? = some x := by rfl) (hv : Vis X.env.scope x := by first | exact Or.inl rfl | exact Or.inr (Or.inl rfl) | exact Or.inr (Or.inr rfl)) (h1 : (x == ("__debug__" : Str)) = false := by decide) (h2 : (x == ("__classdict__" : Str)) = false := by decide)
    (hbase : attributeBase (.Name x p) "append" X.env (eval (.Name x p) X.env) = eval (.Name x p) X.env := by rfl)
    (hfew : ((backTo pos (starEach [e] X.env)).all (fun x => !x.1) && (backToKw pos (keywordEach [] X.env)).all (fun x => x.1.isSome) && decide (([e] : List Expr).length + ([] : List Keyword).length + (if ([] : List Keyword).isEmpty then 0 else 1) < 30)) = true := by rfl)
    (hline : (apos.endLine == pos.line) = true := by rfl) (hs : starEach [e] X.env = (false, eval e X.env) :: starEach [] X.env := by rfl) (hplain : (backTo pos (starEach [] X.env)).any (·.1) = false := by rfl)
    (hsw : swapsWith (.Call (.Attribute (.Name x p) "append" apos) [e] [] pos) none pos'.line X.env = pure false := by rfl) :
    RS X F a ρ N (.Expr (.Call (.Attribute (.Name x p) "append" apos) [e] [] pos) pos' :: rest) D := fun σ H E =>
  wb_cons (ofS (ps_expr (pe_bm PySem.F.plainAttrs_list PySem.F.slot_list_append PySem.F.type_list_append mt_append (pe_var hNx hv h1 h2) (pa_cons pe_w pa_nil hs) hbase hfew hline hs hplain) hsw) (by
    refine ⟨_, E.env.atV hi, .inl ⟨rfl, ys, SqL.of (E.env.2.2 _ _ hF)⟩, ?_⟩
    have na : l ≠ a := fun z => by rw [z, E.off] at hF; cases hF
    refine ha σ H _ E fun d v H1 hp k1 s1 dv => ?_
    have E1 := E.step k1 s1
    have hl1 : H1 l = some (.lst ys) := E1.env.2.2 _ _ hF
    refine ⟨l, ys, v, rfl, rfl, hl1, Nat.lt_of_le_of_lt hl (by decide), ?_⟩
    have t : TI X.K H1 (upd H1 l (.lst (ys ++ [v]))) := ⟨(TK.refl H1).upd (by rw [hl1]; trivial), fun b C dx fs hb => by rw [upd_ne (fun z => by rw [z, hl1] at hb; cases hb)]; exact hb⟩
    have s2 : Str3 (upd H1 l (.lst (ys ++ [v]))) a N' := by
      obtain ⟨s0, s1', s2, q1, q2⟩ := s1
      exact ⟨s0, s1', s2, by rw [upd_ne (Ne.symm na)]; exact q1, q2⟩
    have kF : Keep (· = l) F (hole (upd H1 l (.lst (ys ++ [v]))) a) := fun b o hb nb => by
      rw [hole_ne (fun z => by rw [z, E.off] at hb; cases hb), upd_ne nb]
      exact E1.env.2.2 b o hb
    have tH : TI X.K (upd H1 l (.lst (ys ++ [v]))) (hole (upd H1 l (.lst (ys ++ [v]))) a) := s2.ti hole_keep
    have tF : TI X.K F (hole (upd H1 l (.lst (ys ++ [v]))) a) := ⟨kF.tk fun b hb => by rw [hb, hF]; trivial, fun b C dx fs hb => kF _ _ hb fun z => by rw [z, hF] at hb; cases hb⟩
    exact k _ d v hp kF tF (by rw [hole_ne na]; exact upd_same) (dp_tk (t.1.trans tH.1) d (him d hp) dv) hole_at _ _ ⟨E1.env.ti t E.im hole_same, s2, hole_at, E.im⟩))
end
end DL
end
section
namespace DL
open PySem PySem.Spec PyProof.Rows L2 WM
section
variable {X : Cx} {F : Hp} {ρ : Rho} {c e f o b e1 e2 tg iter elt : Expr} {es : List Expr} {rest sts : List Stmt} {pos p2 p apos pos' tpos : Pos} {d d1 d2 d3 : PyData} {ds : List PyData} {x y : Str} {v u : V} {a : Addr} {N N' N2 k j i : Nat} {D : Ends} {P P' P1 P2 : PyData → Prop} {Ps : List (PyData → Prop)} {σ : L2.St} {H : Hp}
theorem op_powW : OpR X (binaryOp .Pow) (rI (fun i j => 0 ≤ j ∧ (Builtin.Int.intBits i : Int) * j ≤ 2 ^ 27) fun i j => .int (i ^ j.toNat)) := opI fun _ _ _ _ _ _ _ hc q => PyProof.Rows.pow_int hc.1 hc.2 q
theorem ed_powW {i : Int} {n : Nat} (ha : ED X F ρ e (.int i)) (hb : ED X F ρ b (.int (n : Int))) (hi : (Builtin.Int.intBits i : Int) * (n : Int) ≤ 2 ^ 27) : ED X F ρ (.BinOp e .Pow b pos) (.int (i ^ n)) :=
  ed_two (pe_op op_powW pe_w pe_w) ha hb fun x y H Q hx hy k => ⟨i, n, dp_int hx, dp_int hy, ⟨by omega, hi⟩, by
    have e : ((n : Int)).toNat = n := by simp
    show Q (.int (i ^ ((n : Int)).toNat)) H
    rw [e]; exact k _ _ (Same.refl H) (.int _)⟩
/-- l[i] = e -/
theorem rb_store {l : Addr} {ys : List V} {q : Int} {z : Nat} (ho : EV X F ρ o (.ref l)) (hF : F l = some (.lst ys)) (hidx : ED X F ρ b (.int q)) (hz : ixN ys.length q = some z) (hv : ED X F ρ e d) (hd : imm d = true) (hR : immRX X.K ρ)
    (k : ∀ H v, Keep (· = l) F H → TI X.K F H → H l = some (.lst (ys.set z v)) → Dp X.K H v d → RB X H ρ rest D)
    (hs : swapsWithSole [.Subscript o b p] e pos.line X.env = pure false := by rfl) (hw : swappedStores [.Subscript o b p] e X.env = pure none := by rfl)
    (h1 : (assignEach [.Subscript o b p] X.env).map (·.2) = [assign (.Subscript o b p) X.env] := by rfl)
    (hset : ∀ v, assign (.Subscript o b p) X.env v = (do
      let ov ← holding [v] (eval o X.env)
      let iv ← holding [v, ov] (eval b X.env)
      standAt p
      holding [v, ov, iv] (setItem ov iv v)
      release [v, ov, iv] []) := by intro _; rfl) : RB X F ρ (.Assign [.Subscript o b p] e pos :: rest) D :=
  rb_step fun σ H E => ofS (ps_asg pe_w (pg_sub pe_w pe_w set_list hset) hs hw h1) (by
    refine hv σ H _ E fun v H1 e1 dv => ?_
    have E1 := E.mono e1
    refine ho σ H1 _ E1 fun H2 e2 => ?_
    have E2 := E1.mono e2
    refine hidx σ H2 _ E2 fun w H3 e3 dw => ?_
    have E3 := E2.mono e3
    have hl := E3.2.2 _ _ hF
    refine ⟨l, ys, q, z, rfl, dp_int dw, hl, hz, ?_⟩
    have t : TI X.K H3 (upd H3 l (.lst (ys.set z v))) := ⟨(TK.refl H3).upd (by rw [hl]; trivial), fun b C dx fs hb => by rw [upd_ne (fun z => by rw [z, hl] at hb; cases hb)]; exact hb⟩
    have tF : TI X.K F H3 := ⟨TK.of E3.2.2, fun b C dx fs hb => E3.2.2 _ _ hb⟩
    exact k _ v ((Keep.of E3.2.2).upd (.inl rfl)) ⟨tF.1.trans t.1, fun b C dx fs hb => t.2 _ _ _ _ (tF.2 _ _ _ _ hb)⟩ upd_same (dp_tk t.1 d hd (dp_mono (e2.trans e3) dv)) _ _ (E3.ti t hR (Same.refl _)))
/-- for x in range(e): .. -/
theorem ws_forR (j : Nat) (h : wA X [e] σ H fun vs H1 => ∃ n : Nat, vs = [.int (n : Int)] ∧ n ≤ 1000000 ∧ ∃ Wp : Nat → L2.St → Hp → Prop, Wp 0 σ H1 ∧
      (∀ i σ2 H2, i < n → Wp i σ2 H2 → wB X sts { nx := Wp (i + 1), ct := Wp (i + 1), bk := D.nx, rt := D.rt } (σ2.set j (some (.int (i : Int)))) H2) ∧ ∀ σ2 H2, Wp n σ2 H2 → D.nx σ2 H2)
    (hm : X.mg "range" = none) (hc : X.calm = true) (hp : PassesOwn (model X.prog X.w) X.A X.env X.xe) (hN : X.N.Nodup) (hj : X.N[j]? = some x := by rfl) (hx : Loc X.env.scope x := by first | exact Or.inl rfl | exact Or.inr rfl) (hf : X.fn x = true ∨ X.env.scope.names.lookup x = some .local := by first | exact .inl rfl | exact .inr rfl)
    (hg : Gl X "range" := by rfl) (hs1 : starEach [e] X.env = [(false, eval e X.env)] := by rfl) (hs : ∀ x, foldedSetIterable (.Call (.Name "range" p) [e] [] p2) X.env x = pure x := by intro _; rfl) : wS X (.For (.Name x tpos) (.Call (.Name "range" p) [e] [] p2) sts [] pos) D σ H := by
  refine ofS (ps_for hp hc (pi_range1 hg hm pa_w hs1) (pg_name hN hj hx hf) pb_w hs) ?_
  refine h.mono fun vs H1 ⟨n, hvs, hn, Wp, w0, hb, hd⟩ => ⟨(n : Int), hvs, by omega, by omega, ?_⟩
  refine ⟨fun i m σ' H' => m = n - i ∧ i ≤ n ∧ Wp i σ' H', ⟨n, by simp, Nat.zero_le _, w0⟩, ?_⟩
  rintro i m σ' H' ⟨rfl, hin, w⟩
  have e0 : ((n : Int)).toNat = n := by simp
  have wk := walkD_rng (K := X.K) (H1 := H') (lo := 0) (n := n) H' (Same.refl _)
  obtain ⟨w1, w2, w3⟩ := wk
  have hlen : (intsL 0 n).length = n := intsL_len 0 n
  by_cases hlt : i < n
  · right
    refine ⟨w1 i (by rw [hlen]; exact hlt), fun σ2 H2 => i + 1 ≤ n ∧ Wp (i + 1) σ2 H2, fun σ2 H2 q => ⟨n - (i + 1), by omega, rfl, q⟩, fun z H2 hz => ?_⟩
    obtain ⟨rfl, rfl⟩ := hz
    have B := hb i σ' H2 hlt w
    have e1 : (0 : Int) + (i : Int) = (i : Int) := by omega
    rw [e1]
    exact fun pins s I => thn (B pins s I) fun fl s' z => by
      cases fl with
      | next => obtain ⟨σ4, H4, I4, z⟩ := z; exact ⟨σ4, H4, I4, hlt, z⟩
      | cont => obtain ⟨σ4, H4, I4, z⟩ := z; exact ⟨σ4, H4, I4, hlt, z⟩
      | brk => exact z
      | ret v => exact z
  · left
    have ei : i = n := by omega
    subst ei
    rw [hlen] at w2
    exact ⟨w2, hd _ _ w⟩
/-- the walk of a comprehension, from wherever its iterator was made -/
theorem tlc_gen {ι : Type} {items : List ι} {enc res : ι → PyData} {pr : ι → Bool} {en : ι → Rho} {g : TG} {js : List Nat} {own : List (Str × Nat)} {tt : TT} {te : TE} {wi : L2.TI} {J : It} {H1 : Hp} {Q : VK}
    (hwi : ∀ R, R J H1 → wi σ H R) (w : WalkD X.K J H1 (items.map enc))
    (hjs : ∀ j ∈ js, j ∈ own.map (·.2)) (tgo : ∀ i ∈ items, TgOk X.K g js (wipeR ρ (own.map (·.2))) (enc i) (en i))
    (hte : ∀ i ∈ items, ∀ σ H (Q : Bool → Hp → Prop), EnvOk X.K F H σ (en i) → (∀ H', Same H H' → Q (pr i) H') → tt σ H Q)
    (hel : ∀ i ∈ items, pr i = true → ∀ σ H (Q : VK), EnvOk X.K F H σ (en i) → (∀ v H', Same H H' → Dp X.K H' v (res i) → Q v H') → te σ H Q)
    (hm : ∀ i ∈ items, imm (res i) = true) (hl : items.length ≤ 100000) (E1 : EnvOk X.K F H1 σ ρ) (k : ∀ v H', Same H1 H' → Dp X.K H' v (.list ((items.filter pr).map res)) → Q v H') : tLc wi g tt te (own.map (·.2)) σ H Q := by
  refine hwi _ fun D hD => ?_
  let n := items.length
  have hn : (items.map enc).length = n := by simp [n]
  let part := fun i : Nat => ((items.take i).filter pr).map res
  let Pv := fun (i : Nat) (H : Hp) => i ≤ n ∧ Same H1 H ∧ ∃ acc, H D = some (.lst acc) ∧ DpAll X.K H acc (part i)
  have himm : ∀ i, immL (part i) = true := fun i => immL_iff.mpr fun d hd => by
    obtain ⟨a, ha, rfl⟩ := List.mem_map.mp hd
    exact hm a (List.mem_of_mem_take (List.mem_filter.mp ha).1)
  refine ⟨fun i m H => m = n - i ∧ Pv i H, ⟨n, by simp, Nat.zero_le _, Same.new hD, [], upd_same, by simp [part]; exact .nil⟩, ?_⟩
  rintro i m H' ⟨rfl, hin, s1, acc, ha, hacc⟩
  obtain ⟨w1, w2, w3⟩ := w H' s1
  by_cases hlt : i < n
  · right
    refine ⟨w1 i (by omega), Pv (i + 1), fun H2 p => ⟨n - (i + 1), by omega, rfl, p⟩, fun x H2 y => ?_⟩
    have hit : items[i]? = some items[i] := List.getElem?_eq_getElem hlt
    have hmem : items[i] ∈ items := List.getElem_mem hlt
    obtain ⟨s2, dx⟩ := w3 i x H2 (enc items[i]) (by rw [List.getElem?_map, hit]; rfl) y
    have E2 := ((E1.mono (s1.trans s2)).wipe (own.map (·.2)))
    refine tgo _ hmem F _ _ x _ E2 dx fun σ2 E3 hw => ⟨by rw [hw _ hjs, wipe_wipe], ?_⟩
    refine hte _ hmem σ2 H2 _ E3 fun H3 s3 => ?_
    have tk : items.take (i + 1) = items.take i ++ [items[i]] := by rw [List.take_succ, hit]; rfl
    cases hp : pr items[i] with
    | false =>
      rw [if_neg Bool.false_ne_true]
      refine ⟨hlt, (s1.trans s2).trans s3, acc, s3 _ _ (s2 _ _ ha), ?_⟩
      have e4 : part (i + 1) = part i := by simp only [part]; rw [tk, List.filter_append, List.filter_cons, hp]; simp
      rw [e4]
      exact dpA_mono (s2.trans s3) hacc
    | true =>
      rw [if_pos rfl]
      refine hel _ hmem hp σ2 H3 _ (E3.mono s3) fun v H4 s4 dv => ?_
      have l1 := dpA_len hacc
      have l2 : (part i).length ≤ i := by
        simp only [part]
        rw [List.length_map]
        exact Nat.le_trans (List.length_filter_le _ _) (by rw [List.length_take]; omega)
      have hD4 : H4 D = some (.lst acc) := s4 _ _ (s3 _ _ (s2 _ _ ha))
      refine ⟨acc, hD4, Nat.lt_of_lt_of_le (by omega : acc.length < 100001) (by decide), hlt, ?_, acc ++ [v], upd_same, ?_⟩
      · intro b o hb
        have nb : b ≠ D := ne_of_none hb hD
        rw [upd_ne nb]
        exact s4 _ _ (s3 _ _ (s2 _ _ (s1 _ _ hb)))
      · have e4 : part (i + 1) = part i ++ [res items[i]] := by simp only [part]; rw [tk, List.filter_append, List.filter_cons, hp]; simp
        rw [e4]
        have t : TK X.K H4 (upd H4 D (.lst (acc ++ [v]))) := (TK.refl H4).upd (by rw [hD4]; trivial)
        refine dpA_snoc (dpA_tk t _ (himm i) (dpA_mono ((s2.trans s3).trans s4) hacc)) (dp_tk t _ (hm _ hmem) dv)
  · left
    have e : i = n := by omega
    subst e
    rw [hn] at w2
    refine ⟨w2, k _ _ s1 (.lst (SqL.of ha) ?_)⟩
    have e5 : part n = (items.filter pr).map res := by simp only [part, n]; rw [List.take_length]
    rw [← e5]
    exact hacc
/-- [elt for x in e], e a drawn row -/
theorem se_lcRow {g : TG} {js : List Nat} {scope : Scope} {own : List (Str × Nat)} {Pr : List Int → Prop} {res : Int → PyData} {en : Int → Rho} (h : SE X F a ρ N N' iter fun d => ∃ v, d = dV v ∧ Pr v) (hlen : ∀ v, Pr v → v.length ≤ 100000) (hc : X.calm = true) (hN : X.N.Nodup) (ok : BlkOk X.N X.env.scope scope own)
    (hg : ∀ s H C cl fp, PG (BlkX X scope s H C cl fp) tg g) (hjs : ∀ j ∈ js, j ∈ own.map (·.2)) (tgo : ∀ i : Int, TgOk X.K g js (wipeR ρ (own.map (·.2))) (.int i) (en i))
    (hel : ∀ s H C cl fp, ∀ v, Pr v → ∀ i ∈ v, ED (BlkX X scope s H C cl fp) F (en i) elt (res i)) (hm : ∀ i, imm (res i) = true) (hs : ∀ x, foldedSetIterable iter X.env x = pure x := by intro _; rfl) :
    SE X F a ρ N N' (.ListComp elt [⟨tg, iter, [], 0⟩] scope pos) (fun d => ∃ v, Pr v ∧ d = .list (v.map res)) := fun σ H Q E k => by
  refine ofE (pe_lc hc hN pi_w ok hg (fun _ _ _ _ _ => pts_nil) (te := fun σ H Q => ∀ s H0 C cl fp, wE (BlkX X scope s H0 C cl fp) elt σ H Q) (fun s H0 C cl fp => ⟨fun pins st σ H Q I h => h s H0 C cl fp pins st I⟩) hs) ?_
  show wI X tg iter σ H _
  refine ofI (pi_tup pe_w) ?_
  refine h σ H _ E fun d v1 H1 ⟨v, hd, hv⟩ k1 s1 dv => ?_
  subst hd
  obtain ⟨q, xs, rfl, hq, hxs⟩ := dp_tup dv
  refine ⟨q, rfl, ⟨xs, hq⟩, ?_⟩
  have E1 := E.step k1 s1
  have T := tlc_gen (X := X) (F := F) (ρ := ρ) (σ := σ) (H := H1) (items := v) (enc := PyData.int) (res := res) (pr := fun _ => true) (en := en) (g := g) (js := js) (own := own) (tt := tYes) (te := fun σ H Q => ∀ s H0 C cl fp, wE (BlkX X scope s H0 C cl fp) elt σ H Q)
    (wi := fun _ _ R => R (Itt X.K q) H1) (J := Itt X.K q) (H1 := H1) (Q := Q) (fun R hR => hR) (walkD_tup hq hxs) hjs (fun i _ => tgo i) (fun i _ σ H Q _ k => k H (Same.refl H)) (fun i hi _ σ H Q E2 k2 s H0 C cl fp => hel s H0 C cl fp v hv i hi σ H Q E2 k2) (fun i _ => hm i) (hlen v hv) E1.env (fun v2 H2 e2 dv2 => by
      have e3 : (v.filter fun _ => true) = v := by rw [List.filter_eq_self.mpr]; intros; rfl
      rw [e3] at dv2
      exact k _ v2 H2 ⟨v, hv, rfl⟩ (k1.trans (Keep.of e2)) (s1.same e2) dv2)
  exact T
/-- [elt for x in range(n)], elt drawn -/
theorem tlc_S {n cst : Nat} {js : List Nat} {own : List (Str × Nat)} {te : TE} {wi : L2.TI} {J : It} {H1 : Hp} {Q : VK} {jn : Nat}
    (hwi : ∀ R, R J H1 → wi σ H R) (w : ∀ H, WalkD X.K J H ((List.range n).map fun i => .int (i : Nat))) (hyl : ∀ i H x H', J.yld i H x H' → H' = H)
    (hjn : jn ∈ own.map (·.2)) (him1 : immRX X.K (wipeR ρ (own.map (·.2))))
    (hel : ∀ (i N1 : Nat), i < n → N1 ≤ N + cst * n → ∀ σ H (Q : VK), ES X.K F a N1 H σ ((wipeR ρ (own.map (·.2))).set jn (some (.dat (.int (i : Nat))))) → (∀ d v H', P d → Keep (· = a) H H' → Str3 H' a (N1 + cst) → Dp X.K H' v d → Q v H') → te σ H Q)
    (hm : ∀ d, P d → imm d = true) (hl : n ≤ 1000) (E1 : ES X.K F a N H1 σ ρ) (k : ∀ ds q acc H', ds.length = n → (∀ d ∈ ds, P d) → Keep (· = a) H1 H' → Str3 H' a (N + cst * n) → q ≠ a → H' q = some (.lst acc) → DpAll X.K H' acc ds → Q (.ref q) H') : tLc wi (gName jn) tYes te (own.map (·.2)) σ H Q := by
  refine hwi _ fun D hD => ?_
  have hDa : D ≠ a := fun z => by obtain ⟨_, _, _, z2, _⟩ := E1.str; rw [← z, hD] at z2; cases z2
  let Pv := fun (i : Nat) (H : Hp) => i ≤ n ∧ Keep (· = a) H1 H ∧ Str3 H a (N + cst * i) ∧ ∃ acc ds, H D = some (.lst acc) ∧ DpAll X.K H acc ds ∧ ds.length = i ∧ ∀ d ∈ ds, P d
  have hn : ((List.range n).map fun i : Nat => PyData.int (i : Nat)).length = n := by simp
  refine ⟨fun i m H => m = n - i ∧ Pv i H, ⟨n, by simp, Nat.zero_le _, Keep.of (Same.new hD), by simpa using E1.str.same (Same.new hD), [], [], upd_same, .nil, rfl, fun _ h => nomatch h⟩, ?_⟩
  rintro i m H' ⟨rfl, hin, k1, s1, acc, ds, ha, hacc, hdl, hds⟩
  obtain ⟨w1, w2, w3⟩ := w H' H' (Same.refl _)
  rw [hn] at w1 w2
  by_cases hlt : i < n
  · right
    refine ⟨w1 i hlt, Pv (i + 1), fun H2 p => ⟨n - (i + 1), by omega, rfl, p⟩, fun x H2 y => ?_⟩
    obtain rfl := hyl _ _ _ _ y
    obtain ⟨_, dx⟩ := w3 i x H2 (.int (i : Nat)) (by rw [List.getElem?_map, List.getElem?_range hlt]; rfl) y
    have E2 := E1.step k1 s1
    have Ew : ES X.K F a (N + cst * i) H2 (wipe σ (own.map (·.2))) (wipeR ρ (own.map (·.2))) := ⟨E2.env.wipe _, E2.str, E2.off, him1⟩
    show gName jn x (wipe σ (own.map (·.2))) H2 _
    have E3 := Ew.set (i := jn) (x := .dat (.int (i : Nat))) dx (.inl rfl)
    refine ⟨by rw [wipe_set (show jn ∈ own.map (·.2) from hjn), wipe_wipe], ?_⟩
    show tYes _ H2 _
    refine yes_of ?_
    rw [if_pos rfl]
    have hb : cst * i ≤ cst * n := Nat.mul_le_mul_left _ (by omega)
    refine hel i (N + cst * i) hlt (by omega) _ H2 _ E3 fun d v H4 hp k4 s4 dv => ?_
    have hD4 : H4 D = some (.lst acc) := k4 _ _ ha hDa
    have l1 := dpA_len hacc
    refine ⟨acc, hD4, Nat.lt_of_lt_of_le (by omega : acc.length < 100001) (by decide), hlt, (k1.trans k4).upd (.inr ?_) |>.mono fun b hb => hb, ?_, acc ++ [v], ds ++ [d], upd_same, ?_, by rw [List.length_append, hdl]; rfl, fun d' hd' => ?_⟩
    · exact hD
    · obtain ⟨q0, q1, q2, q3, q4⟩ := s4
      exact ⟨q0, q1, q2, by rw [upd_ne (Ne.symm hDa)]; exact q3, q4.1, q4.2.1, by have := q4.2.2; rw [Nat.mul_succ]; omega⟩
    · have t : TK X.K H4 (upd H4 D (.lst (acc ++ [v]))) := (TK.refl H4).upd (by rw [hD4]; trivial)
      have t2 : TK X.K H2 H4 := (s1.ti k4 : TI X.K H2 H4).1
      exact dpA_snoc (dpA_tk (t2.trans t) _ (immL_iff.mpr fun d hd => hm d (hds d hd)) hacc) (dp_tk t _ (hm d hp) dv)
    · rcases List.mem_append.mp hd' with q | q
      · exact hds d' q
      · rw [List.mem_singleton.mp q]; exact hp
  · left
    have e : i = n := by omega
    subst e
    exact ⟨w2, k ds D acc _ hdl hds k1 s1 hDa ha hacc⟩
theorem dp_hole {K : PySem.W.Frag} {H : Hp} {d : PyData} {v : V} (s : Str3 H a N) (hd : imm d = true) (h : Dp K H v d) : Dp K (hole H a) v d := dp_tk (s.ti hole_keep : TI K H (hole H a)).1 d hd h
theorem dpA_hole {K : PySem.W.Frag} {H : Hp} {ds : List PyData} {vs : List V} (s : Str3 H a N) (hd : immL ds = true) (h : DpAll K H vs ds) : DpAll K (hole H a) vs ds := dpA_tk (s.ti hole_keep : TI K H (hole H a)).1 ds hd h
/-- name = [elt for x in range(n)], elt drawn -/
theorem rs_lcS {n cst : Nat} {tp px rp cp : Pos} {scope : Scope} {own : List (Str × Nat)} {jn : Nat} {z : Str} (i : Nat) (he : ED X F ρ e (.int (n : Int))) (hn : n ≤ 1000) (ok : BlkOk X.N X.env.scope scope own)
    (hg : ∀ s H C cl fp, PG (BlkX X scope s H C cl fp) (.Name z tp) (gName jn)) (hjn : jn ∈ own.map (·.2)) (him1 : immRX X.K (wipeR ρ (own.map (·.2))))
    (hel : ∀ s H C cl fp (i N1 : Nat), i < n → N1 ≤ N + cst * n → SE (BlkX X scope s H C cl fp) F a ((wipeR ρ (own.map (·.2))).set jn (some (.dat (.int (i : Nat))))) N1 (N1 + cst) elt P) (hm : ∀ d, P d → imm d = true)
    (k : ∀ ds F' q, ds.length = n → (∀ d ∈ ds, P d) → Same F F' → F' a = none → Dp X.K F' (.ref q) (.list ds) → RS X F' a (ρ.set i (some (.val (.ref q)))) (N + cst * n) rest D)
    (hmr : X.mg "range" = none) (hc : X.calm = true) (hN : X.N.Nodup) (hy : X.N[i]? = some y := by rfl) (hyl : X.env.scope.names.lookup y = some .local := by rfl) (hsw : swapsWith (.ListComp elt [⟨.Name z tp, .Call (.Name "range" rp) [e] [] cp, [], 0⟩] scope pos) (some (.Name y p)) pos'.line X.env = pure true := by rfl)
    (hgr : Gl X "range" := by rfl) (hs1 : starEach [e] X.env = [(false, eval e X.env)] := by rfl) (hs : ∀ x, foldedSetIterable (.Call (.Name "range" rp) [e] [] cp) X.env x = pure x := by intro _; rfl) :
    RS X F a ρ N (.Assign [.Name y p] (.ListComp elt [⟨.Name z tp, .Call (.Name "range" rp) [e] [] cp, [], 0⟩] scope pos) pos' :: rest) D := fun σ H E =>
  wb_cons (ofS (ps_setLc hc hN hy hyl hsw pi_w ok hg (fun _ _ _ _ _ => pts_nil) (te := fun σ H Q => ∀ s H0 C cl fp, wE (BlkX X scope s H0 C cl fp) elt σ H Q) (fun s H0 C cl fp => ⟨fun pins st σ H Q I h => h s H0 C cl fp pins st I⟩) hs) (by
    show wI X _ _ σ H _
    refine ofI (pi_range1 hgr hmr pa_w hs1) ?_
    refine (ea_cons he ea_nil hs1) σ H _ E.env fun vs H1 e1 dvs => ?_
    obtain ⟨v, rfl, dv⟩ := dpA1 dvs
    refine ⟨(n : Int), by rw [dp_int dv], by omega, by omega, ?_⟩
    have e0 : ((n : Int)).toNat = n := by simp
    have E1 := E.same e1
    have eI : intsL 0 n = (List.range n).map fun i => PyData.int (i : Nat) := by unfold intsL; exact List.map_congr_left fun i _ => by simp
    have T := tlc_S (X := X) (F := F) (ρ := ρ) (σ := σ) (H := H1) (a := a) (N := N) (P := P) (n := n) (cst := cst) (js := []) (own := own) (te := fun σ H Q => ∀ s H0 C cl fp, wE (BlkX X scope s H0 C cl fp) elt σ H Q) (wi := fun _ _ R => R (Itr 0 n) H1) (J := Itr 0 n) (H1 := H1) (jn := jn)
      (Q := fun x H1 => gName i x σ H1 (fun σ H => wB X rest D σ H)) (fun R hR => hR) (fun H => by rw [← eI]; exact walkD_rng) (fun i H x H' y => y.1) hjn him1
      (fun i N1 hi h1 σ H Q E2 k2 s H0 C cl fp => hel s H0 C cl fp i N1 hi h1 σ H Q E2 k2) hm hn E1 (fun ds q acc H2 hl hds k2 s2 hqa hq hacc => by
        have E2 := E1.step k2 s2
        have hd2 : DpAll X.K (hole H2 a) acc ds := dpA_hole s2 (immL_iff.mpr fun d hd => hm d (hds d hd)) hacc
        exact k ds (hole H2 a) q hl hds (same_hole E2.env.2.2 E.off) hole_at (.lst (SqL.of (by rw [hole_ne hqa]; exact hq)) hd2) _ _ (E2.anchor.set (x := .val (.ref q)) rfl (.inl rfl)))
    exact T))
/-- name = [..] of pure elements, a list that is known by its address from then on -/
theorem rs_ad {t : List PyData} (i : Nat) (h : AD X F ρ i y p e pos (.list (.tuple t :: ds))) (him : immL (.tuple t :: ds) = true) (k : ∀ F' q, Same F F' → F' a = none → Dp X.K F' (.ref q) (.list (.tuple t :: ds)) → RS X F' a (ρ.set i (some (.val (.ref q)))) N rest D) : RS X F a ρ N (.Assign [.Name y p] e pos :: rest) D := fun σ H E =>
  wb_cons (h σ H _ E.env fun v H' e1 dv => by
    obtain ⟨q, xs, rfl, hq, hx⟩ := dp_lst dv
    have E1 := E.same e1
    have hd2 := dpA_hole E1.str him hx
    have hsq : SqL X.K (hole H' a) q xs := by
      rcases hq with (hq | ⟨o, hq⟩) | hq
      · by_cases z : q = a
        · subst z
          obtain ⟨s0, s1, s2, z2, _⟩ := E1.str
          rw [z2] at hq
          cases hq
          cases hx with
          | cons h1 h2 => obtain ⟨b, ys, hb, _⟩ := dp_tup h1; cases hb
        · exact .inl (.inl (by rw [hole_ne z]; exact hq))
      · have z : q ≠ a := fun z => by
          subst z
          obtain ⟨s0, s1, s2, z2, _⟩ := E1.str
          rw [z2] at hq
          cases hq
        exact .inl (.inr ⟨o, by rw [hole_ne z]; exact hq⟩)
      · exact .inr hq
    exact k (hole H' a) q (same_hole E1.env.2.2 E.off) hole_at (.lst hsq hd2) _ _ (E1.anchor.set (x := .val (.ref q)) rfl (.inl rfl)))
theorem rs_skip {t : Bool} (hc : TD X F ρ c t) (ht : t = false) (h2 : RS X F a ρ N rest D) : RS X F a ρ N (.If c sts [] pos :: rest) D := fun σ H E =>
  wb_cons (ofS (ps_if pt_w pb_w pb_w) (hc σ H _ E.env fun H1 e1 => by
    rw [ht, if_neg Bool.false_ne_true]
    exact wb_nil (h2 σ H1 (E.same e1))))
/-- if not e1 or c2: .., e1 drawn -/
theorem rs_skipOr {t : Bool} {pn : Pos} (h1 : SE X F a ρ N N' e1 (· = .bool true)) (hc : TD X F ρ e2 t) (ht : t = false) (h2 : RS X F a ρ N' rest D)
    (he : ∀ whole, isTrue e1 X.env whole = (do let v ← whole; standAt e1.pos; holding [v] (truthy v)) := by intro _; rfl) : RS X F a ρ N (.If (.BoolOp .Or [.UnaryOp .Not e1 pn, e2] p) sts [] pos :: rest) D := fun σ H E =>
  wb_cons (ofS (ps_if ((pw_or (pt_not (pt_val pe_w he)) (pw_or1 pt_w)).pt) pb_w pb_w) (by
    refine h1 σ H _ E fun d v H1 hd k1 s1 dv => ?_
    subst hd
    refine ⟨true, dp_bl dv, ?_⟩
    have E1 := E.step k1 s1
    show wT X e2 σ H1 _
    refine hc σ H1 _ E1.env fun H2 e2 => ?_
    show (if t = true then _ else _)
    rw [ht, if_neg Bool.false_ne_true]
    exact wb_nil (h2 σ H2 (E1.same e2))))
theorem rs_ret (h : SE X F a ρ N N' e P) (q : ∀ d v H H', P d → Same F H → Keep (· = a) H H' → Str3 H' a N' → Dp X.K H' v d → D.rt v H') : RS X F a ρ N (.Return (some e) pos :: rest) D := fun σ H E => by
  refine wb_cons (ofS (ps_ret pe_w) ?_)
  exact h σ H _ E fun d v H' hp k1 s1 dv => q d v H H' hp E.env.2.2 k1 s1 dv
theorem se_tup (h : SEA X F a ρ N N' es Ps) (hl : Ps.length ≤ 1000 := by decide) {k2 : Nat} : SE X F a ρ N N' (.Tuple es k2 pos) (fun d => ∃ ds, d = .tuple ds ∧ LP Ps ds) := fun σ H Q E k => by
  refine ofE (pe_tup pa_w) ?_
  refine h σ H _ E fun ds vs H1 hps k1 s1 dvs => ⟨by rw [dpA_len dvs, hps.len]; exact Nat.le_trans hl (by decide), fun q hq => ?_⟩
  exact k _ _ _ ⟨ds, rfl, hps⟩ (k1.trans (Keep.of (Same.new hq))) (s1.same (Same.new hq)) (.tup (SqT.of upd_same) (dpA_mono (Same.new hq) dvs))
/-- tuples put together -/
theorem se_cat (h1 : SE X F a ρ N N' e1 P1) (h2 : SE X F a ρ N' N2 e2 P2) (q1 : ∀ d, P1 d → ∃ ds, d = .tuple ds ∧ ds.length ≤ 1000) (q2 : ∀ d, P2 d → ∃ ds, d = .tuple ds ∧ ds.length ≤ 1000) (i1 : ∀ d, P1 d → imm d = true) : SE X F a ρ N N2 (.BinOp e1 .Add e2 pos) (fun d => ∃ ds ds', P1 (.tuple ds) ∧ P2 (.tuple ds') ∧ d = .tuple (ds ++ ds')) := fun σ H Q E k => by
  refine ofE (pe_op op_catA pe_w pe_w) ?_
  refine h1 σ H _ E fun d v H1 hp k1 s1 dv => ?_
  refine h2 σ H1 _ (E.step k1 s1) fun d' v' H2 hp' k2 s2 dv' => ?_
  have dv1 := dp_tk (s1.ti k2 : TI X.K H1 H2).1 d (i1 d hp) dv
  obtain ⟨ds, rfl, hl1⟩ := q1 d hp
  obtain ⟨ds', rfl, hl2⟩ := q2 d' hp'
  obtain ⟨q, xs, rfl, hq, hxs⟩ := dp_tup dv1
  obtain ⟨r, ys, rfl, hr, hys⟩ := dp_tup dv'
  have l1 := dpA_len hxs
  have l2 := dpA_len hys
  refine ⟨q, r, xs, ys, rfl, rfl, hq, hr, Nat.le_trans (by omega : xs.length + ys.length ≤ 100000) (by decide), fun h0 => ?_, fun h0 h1 => ?_, fun h0 h1 p hp3 => ?_⟩
  · subst h0
    cases ds with
    | nil => exact k _ _ _ ⟨[], ds', hp, hp', rfl⟩ (k1.trans k2) s2 (.tup hr hys)
    | cons _ _ => cases hxs
  · subst h1
    cases ds' with
    | nil => exact k _ _ _ ⟨ds, [], hp, hp', rfl⟩ (k1.trans k2) s2 (by rw [List.append_nil]; exact .tup hq hxs)
    | cons _ _ => cases hys
  · exact k _ _ _ ⟨ds, ds', hp, hp', rfl⟩ ((k1.trans k2).trans (Keep.of (Same.new hp3))) (s2.same (Same.new hp3)) (.tup (SqT.of upd_same) (dpA_mono (Same.new hp3) (dpA_app hxs hys)))
/-- tuple(l) -/
theorem se_tupleL (hm : X.mg "tuple" = none) (h : SE X F a ρ N N' e P) (q : ∀ d, P d → ∃ ds, d = .list ds) (hg : Gl X "tuple" := by rfl) (he : starEach [e] X.env = (false, eval e X.env) :: starEach [] X.env := by rfl) : SE X F a ρ N N' (.Call (.Name "tuple" p) [e] [] pos) (fun d => ∃ ds, P (.list ds) ∧ d = .tuple ds) := fun σ H Q E k => by
  refine ofE (pe_callTy call_tuple_of hg hm (by decide +kernel) (pa_cons pe_w pa_nil he) (by decide) (by decide) he rfl) ?_
  refine h σ H _ E fun d v H1 hp k1 s1 dv => ?_
  obtain ⟨ds, rfl⟩ := q d hp
  obtain ⟨q, xs, rfl, hq, hx⟩ := dp_lst dv
  exact ⟨q, xs, rfl, .inl ⟨hq, fun l hl => k _ _ _ ⟨ds, hp, rfl⟩ (k1.trans (Keep.of (Same.new hl))) (s1.same (Same.new hl)) (.tup (SqT.of upd_same) (dpA_mono (Same.new hl) hx))⟩⟩
end
end DL
end
section
namespace RM
open PySem PySem.Spec PyProof.Rows L2 RZ
/-! ### zip of a list and a tuple, in either order -/
/-- how an iterator at it hands out the items of the sequence at l -/
structure NextK (it l : Addr) (St : Heap → Nat → Prop) (Sq : Heap → Prop) (xs : Array Value) : Prop where
  item : ∀ {prog : Program} {w : World} {A : Around} {E : Value → Shared → Prop} {s : Shared} {k : Nat} {x : Value} {Q : Value → Shared → Prop}, St s.heap k → Sq s.heap → xs[k]? = some x → (∀ h', St h' (k + 1) → Heap.SameBut it s.heap h' → Q x { s with heap := h' }) →
    wpAny (model prog w) A (Builtin.SmallTypes.nextOf (.ref it)) Q E s
  fin : ∀ {prog : Program} {w : World} {A : Around} {E : Value → Shared → Prop} {s : Shared} {k : Nat} {Q : Value → Shared → Prop}, A.handled = none → St s.heap k → Sq s.heap → xs[k]? = none →
    (∀ h' e, Heap.ExtBut it s.heap h' → (∃ o, h'.get? e = some o ∧ o.cls = .type "StopIteration") → E (.ref e) { s with heap := h' }) → wpAny (model prog w) A (Builtin.SmallTypes.nextOf (.ref it)) Q E s
  stAt : ∀ {h h' : Heap} {k : Nat}, St h k → (∀ o, h.get? it = some o → h'.get? it = some o) → St h' k
  sqAt : ∀ {h h' : Heap}, Sq h → (∀ o, h.get? l = some o → h'.get? l = some o) → Sq h'
theorem nextT {it l : Addr} {xs : Array Value} : NextK it l (fun h k => h.IsTupleIter it l k) (fun h => h.IsTuple l xs) xs :=
  ⟨fun a b c d => nextOf_tuple_item a b c d, fun a b c d e => nextOf_tuple_end a b c d e, fun a b => a.at b, fun ⟨o, ho, r⟩ b => ⟨o, b o ho, r⟩⟩
theorem nextL {it l : Addr} {xs : Array Value} : NextK it l (fun h k => h.IsListIter it l k) (fun h => h.IsList l xs) xs :=
  ⟨fun a b c d => wpAny_nextOf_list_item a b c d, fun a b c d e => wpAny_nextOf_list_end a b c d e, fun a b => a.at b, fun ⟨o, ho, r⟩ b => ⟨o, b o ho, r⟩⟩
section
variable {prog : Program} {w : World} {A : Around} {E : Value → Shared → Prop} {s : Shared} {z TI TO i1 i2 l1 l2 : Addr} {k1 k2 : Nat} {xs ys : Array Value} {x y a b : Value} {St1 St2 : Heap → Nat → Prop} {Sq1 Sq2 : Heap → Prop}
/-- a turn of such a zip that hands out a pair -/
theorem zipK_item {Q : Option Value → Shared → Prop} (N1 : NextK i1 l1 St1 Sq1 xs) (N2 : NextK i2 l2 St2 Sq2 ys) (D : ZipApart z TI TO i1 i2 l1 l2) (hz : IsZip s.heap z TI TO .none) (hTI : IsPair s.heap TI (.ref i1) (.ref i2)) (hTO : IsPair s.heap TO a b)
    (g1 : ∃ o, s.heap.get? i1 = some o) (g2 : ∃ o, s.heap.get? i2 = some o) (h1 : St1 s.heap k1) (h2 : St2 s.heap k2) (q1 : Sq1 s.heap) (q2 : Sq2 s.heap) (hx : xs[k1]? = some x) (hy : ys[k2]? = some y)
    (hQ : ∀ h', IsZip h' z TI TO (rawInt s.heap.objs.size) → IsPair h' TO x y → St1 h' (k1 + 1) → St2 h' (k2 + 1) → IsPair h' s.heap.objs.size x y → (∀ c o, c ≠ z → c ≠ TO → c ≠ i1 → c ≠ i2 → s.heap.get? c = some o → h'.get? c = some o) → Q (some (.ref s.heap.objs.size)) { s with heap := h' }) :
    wpAny (model prog w) A (pyNext (.ref z)) Q E s := by
  have hT : s.TypeIs (.ref z) "zip" := ⟨_, hz, rfl⟩
  have core : ∀ E : Value → Shared → Prop, wpAny (model prog w) A.in1 (Builtin.«zip.__next__» ⟨[.ref z], []⟩) (fun fin s' => ∃ v, fin = .done (.ret v) ∧ Q (some v) s') E s := fun E => by
    show wpAny _ _ (field (.ref z) 2 >>= _) _ _ _
    refine wpAny_bind (wpAny_field hz rfl (x := .bool false) rfl ?_); show wpAny _ _ (field (.ref z) 3 >>= _) _ _ _
    refine wpAny_bind (wpAny_field hz rfl (x := .ref TI) rfl (wpAny_bind (wpAny_seqItems hTI rfl ?_)))
    show wpAny _ _ (Builtin.SmallTypes.ownedTupleIsFree (.ref z) >>= _) _ _ _
    refine wpAny_bind ?_; unfold Builtin.SmallTypes.ownedTupleIsFree
    refine wpAny_bind (wpAny_field hz rfl (x := .none) rfl (wpAny_pure ?_)); simp only [if_true]
    refine wpAny_bind (wpAny_rule (wpAny_bind (wpAny_field hz rfl (x := .ref TO) rfl (wpAny_bind (wpAny_setField_rec hz (by simp) fun hA zA sA => ?_)))))
    replace zA : IsZip hA z TI TO .ellipsis := zA
    have eA := sA.extBut
    refine wpAny_bind ?_; simp only [List.zipIdx_cons, List.zipIdx_nil, List.forIn_cons, List.forIn_nil]
    refine wpAny_bind (wpAny_bind (wpAny_onRaise ?_)); show wpAny _ _ (Builtin.SmallTypes.nextOf (.ref i1) >>= _) _ _ _
    refine wpAny_bind (N1.item (N1.stAt h1 fun o e => eA _ _ D.i1z e) (N1.sqAt q1 fun o e => eA _ _ D.l1z e) hx fun hB tB sB => wpAny_pure ?_)
    have eB := sB.extBut
    have pB : IsPair hB TO a b := eB _ _ D.TOi1 (eA _ _ D.TOz hTO)
    refine wpAny_bind (wpAny_seqItems pB rfl (wpAny_bind (wpAny_updateSeq_pair pB fun hC pC sC => wpAny_bind (wpAny_letGo (wpAny_pure ?_)))))
    replace pC : IsPair hC TO x b := pC
    have eC := sC.extBut
    refine wpAny_bind (wpAny_bind (wpAny_onRaise ?_)); show wpAny _ _ (Builtin.SmallTypes.nextOf (.ref i2) >>= _) _ _ _
    refine wpAny_bind (N2.item (N2.stAt h2 fun o e => eC _ _ D.TOi2.symm (eB _ _ D.i12.symm (eA _ _ D.i2z e))) (N2.sqAt q2 fun o e => eC _ _ D.l2TO (eB _ _ D.l2i1 (eA _ _ D.l2z e))) hy fun hD tD sD => wpAny_pure ?_)
    have eD := sD.extBut
    have pD : IsPair hD TO x b := eD _ _ D.TOi2 pC
    refine wpAny_bind (wpAny_seqItems pD rfl (wpAny_bind (wpAny_updateSeq_pair pD fun hE pE sE => wpAny_bind (wpAny_letGo (wpAny_pure (wpAny_pure ?_))))))
    replace pE : IsPair hE TO x y := pE
    have eE := sE.extBut
    refine wpAny_bind (wpAny_seqItems pE rfl (wpAny_bind (wpAny_newTuple ?_)))
    have size : hE.objs.size = s.heap.objs.size := by rw [sE.1, sD.1, sC.1, sB.1, sA.1]
    have zE : IsZip hE z TI TO .ellipsis := eE _ _ D.TOz.symm (eD _ _ D.i2z.symm (eC _ _ D.TOz.symm (eB _ _ D.i1z.symm zA)))
    have all : ∀ c o, c ≠ z → c ≠ TO → c ≠ i1 → c ≠ i2 → s.heap.get? c = some o → hE.get? c = some o := fun c o c1 c2 c3 c4 e => eE _ _ c2 (eD _ _ c4 (eC _ _ c2 (eB _ _ c3 (eA _ _ c1 e))))
    have t1 : St1 hE (k1 + 1) := N1.stAt tB fun o e => eE _ _ D.TOi1.symm (eD _ _ D.i12 (eC _ _ D.TOi1.symm e))
    have t2 : St2 hE (k2 + 1) := N2.stAt tD fun o e => eE _ _ D.TOi2.symm e
    have zl : z < hE.objs.size := Heap.lt_size zE
    show wpAny _ _ (Builtin.SmallTypes.ownedTupleHandOut (.ref z) (.ref hE.objs.size) >>= _) _ _ _
    refine wpAny_bind ?_; unfold Builtin.SmallTypes.ownedTupleHandOut
    have zF : IsZip (hE.push { cls := .type "tuple", data := .seq #[x, y] }) z TI TO .ellipsis := Heap.get?_push_of_some _ zE
    refine wpAny_bind (wpAny_setField_rec zF (by simp) fun hG zG sG => ?_)
    replace zG : IsZip hG z TI TO (rawInt hE.objs.size) := zG
    refine wpAny_setField_rec zG (by simp) fun hH zH sH => ?_
    replace zH : IsZip hH z TI TO (rawInt hE.objs.size) := zH
    have up : ∀ c o, c ≠ z → hE.get? c = some o → hH.get? c = some o := fun c o c1 e => sH.extBut _ _ c1 (sG.extBut _ _ c1 (Heap.get?_push_of_some _ e))
    have pT : IsPair hH hE.objs.size x y := sH.extBut _ _ (Nat.ne_of_gt zl) (sG.extBut _ _ (Nat.ne_of_gt zl) (Heap.get?_push_size _ rfl))
    rw [size] at zH pT
    refine wpAny_pure ⟨_, rfl, ?_⟩
    show Q (some (.ref hE.objs.size)) _
    rw [size]
    exact hQ hH zH (up _ _ D.TOz pE) (N1.stAt t1 fun o e => up _ o D.i1z e) (N2.stAt t2 fun o e => up _ o D.i2z e) pT fun c o c1 c2 c3 c4 e => up c o c1 (all c o c1 c2 c3 c4 e)
  unfold pyNext
  refine wpAny_bind (wpAny_attempt (wpAny_callSpecial?_slot (name := Str.ofString "__next__") hT F.slot_zip_next (wpAny_call_entry F.slot_zip_next hT F.entry_zip_next ?_ (F.args_zip_next_1 _))))
  exact wpAny_mono (core _) (fun f s' ⟨v, e, q⟩ => ⟨v, e, wpAny_pure q⟩) fun _ _ e => e
/-- its end -/
theorem zipK_end {Q : Option Value → Shared → Prop} (hh : A.handled = none) (N1 : NextK i1 l1 St1 Sq1 xs) (N2 : NextK i2 l2 St2 Sq2 ys) (D : ZipApart z TI TO i1 i2 l1 l2) (hz : IsZip s.heap z TI TO .none) (hTI : IsPair s.heap TI (.ref i1) (.ref i2)) (hTO : IsPair s.heap TO a b)
    (h1 : St1 s.heap k1) (h2 : St2 s.heap k2) (q1 : Sq1 s.heap) (q2 : Sq2 s.heap) (hend : xs[k1]? = none ∨ ys[k2]? = none) (hQ : ∀ h', (∀ c o, c ≠ z → c ≠ TO → c ≠ i1 → c ≠ i2 → s.heap.get? c = some o → h'.get? c = some o) → Q none { s with heap := h' }) :
    wpAny (model prog w) A (pyNext (.ref z)) Q E s := by
  have hT : s.TypeIs (.ref z) "zip" := ⟨_, hz, rfl⟩
  have core : ∀ (Qf : Fin → Shared → Prop) (E : Value → Shared → Prop), (∀ h' e, (∀ c o, c ≠ z → c ≠ TO → c ≠ i1 → c ≠ i2 → s.heap.get? c = some o → h'.get? c = some o) → (∃ o, h'.get? e = some o ∧ o.cls = .type "StopIteration") → E (.ref e) { s with heap := h' }) →
      wpAny (model prog w) A.in1 (Builtin.«zip.__next__» ⟨[.ref z], []⟩) Qf E s := fun Qf E hE => by
    show wpAny _ _ (field (.ref z) 2 >>= _) _ _ _
    refine wpAny_bind (wpAny_field hz rfl (x := .bool false) rfl ?_); show wpAny _ _ (field (.ref z) 3 >>= _) _ _ _
    refine wpAny_bind (wpAny_field hz rfl (x := .ref TI) rfl (wpAny_bind (wpAny_seqItems hTI rfl ?_)))
    show wpAny _ _ (Builtin.SmallTypes.ownedTupleIsFree (.ref z) >>= _) _ _ _
    refine wpAny_bind ?_; unfold Builtin.SmallTypes.ownedTupleIsFree
    refine wpAny_bind (wpAny_field hz rfl (x := .none) rfl (wpAny_pure ?_)); simp only [if_true]
    refine wpAny_bind (wpAny_rule (wpAny_bind (wpAny_field hz rfl (x := .ref TO) rfl (wpAny_bind (wpAny_setField_rec hz (by simp) fun hA zA sA => ?_)))))
    replace zA : IsZip hA z TI TO .ellipsis := zA
    have eA := sA.extBut
    refine wpAny_bind ?_; simp only [List.zipIdx_cons, List.zipIdx_nil, List.forIn_cons, List.forIn_nil]
    refine wpAny_bind (wpAny_bind (wpAny_onRaise ?_)); show wpAny _ _ (Builtin.SmallTypes.nextOf (.ref i1) >>= _) _ _ _
    have s1 : St1 hA k1 := N1.stAt h1 fun o e => eA _ _ D.i1z e
    have u1 : Sq1 hA := N1.sqAt q1 fun o e => eA _ _ D.l1z e
    cases hx : xs[k1]? with
    | none =>
      refine wpAny_bind (N1.fin hh s1 u1 hx fun hB e eB he => ?_)
      obtain ⟨oe, g, gc⟩ := he
      have zB : IsZip hB z TI TO .ellipsis := eB _ _ D.i1z.symm zA
      have ne : e ≠ z := fun x => by subst x; rw [zB] at g; cases g; simp at gc
      refine wpAny_setField_rec zB (by simp) fun hC _ sC => hE hC e (fun c o c1 _ c3 _ x => sC.extBut _ _ c1 (eB _ _ c3 (eA _ _ c1 x))) ⟨oe, sC.extBut _ _ ne g, gc⟩
    | some x =>
      have hy : ys[k2]? = none := by rcases hend with q | q; · { rw [hx] at q; cases q }; · exact q
      refine wpAny_bind (N1.item s1 u1 hx fun hB tB sB => wpAny_pure ?_)
      have eB := sB.extBut
      have pB : IsPair hB TO a b := eB _ _ D.TOi1 (eA _ _ D.TOz hTO)
      refine wpAny_bind (wpAny_seqItems pB rfl (wpAny_bind (wpAny_updateSeq_pair pB fun hC pC sC => wpAny_bind (wpAny_letGo (wpAny_pure ?_)))))
      have eC := sC.extBut
      refine wpAny_bind (wpAny_bind (wpAny_onRaise ?_)); show wpAny _ _ (Builtin.SmallTypes.nextOf (.ref i2) >>= _) _ _ _
      refine wpAny_bind (N2.fin hh (N2.stAt h2 fun o e => eC _ _ D.TOi2.symm (eB _ _ D.i12.symm (eA _ _ D.i2z e))) (N2.sqAt q2 fun o e => eC _ _ D.l2TO (eB _ _ D.l2i1 (eA _ _ D.l2z e))) hy fun hD e eD he => ?_)
      obtain ⟨oe, g, gc⟩ := he
      have zD : IsZip hD z TI TO .ellipsis := eD _ _ D.i2z.symm (eC _ _ D.TOz.symm (eB _ _ D.i1z.symm zA))
      have ne : e ≠ z := fun x => by subst x; rw [zD] at g; cases g; simp at gc
      refine wpAny_setField_rec zD (by simp) fun hE' _ sE => hE hE' e (fun c o c1 c2 c3 c4 x => sE.extBut _ _ c1 (eD _ _ c4 (eC _ _ c2 (eB _ _ c3 (eA _ _ c1 x))))) ⟨oe, sE.extBut _ _ ne g, gc⟩
  unfold pyNext
  refine wpAny_bind (wpAny_attempt (wpAny_callSpecial?_slot (name := Str.ofString "__next__") hT F.slot_zip_next (wpAny_call_entry F.slot_zip_next hT F.entry_zip_next (core _ _ fun h' e hk he => ?_) (F.args_zip_next_1 _))))
  obtain ⟨o, ho, hc⟩ := he
  exact wpAny_bind (wpAny_isInstance (T := "StopIteration") (b := true) ⟨o, ho, hc⟩ isSubtype_stop (wpAny_pure (hQ _ hk)))
end
/-! ### as a source of pairs -/
/-- a list (true) or a tuple (false) -/
def SqB (t : Bool) (K : PySem.W.Frag) (H : Hp) (a : Addr) (xs : List V) : Prop := if t then SqL K H a xs else SqT K H a xs
def StB (t : Bool) (it l : Addr) (h : Heap) (k : Nat) : Prop := if t then h.IsListIter it l k else h.IsTupleIter it l k
def LsB (t : Bool) (l : Addr) (xs : Array Value) (h : Heap) : Prop := if t then h.IsList l xs else h.IsTuple l xs
theorem nextB {t : Bool} {it l : Addr} {xs : Array Value} : NextK it l (StB t it l) (LsB t l xs) xs := by
  cases t with
  | true => exact nextL
  | false => exact nextT
theorem sqB_at {X : Cx} {pins : List (Addr × Obj)} {σ : L2.St} {H : Hp} {s : Shared} {a : Addr} {xs : List V} {t : Bool} (I : Inv X pins σ H s) (h : SqB t X.K H a xs) : ∃ its : List Value, Vals xs its ∧ LsB t a its.toArray s.heap ∧ a < s.heap.objs.size := by
  cases t with
  | true =>
    obtain ⟨its, rv, p, _⟩ := I.list h
    exact ⟨its, rv, p.isList, p.lt⟩
  | false =>
    obtain ⟨its, rv, p, _⟩ := I.tuple h
    obtain ⟨o, ho, _⟩ := id p
    exact ⟨its, rv, p, Heap.lt_size ho⟩
theorem sqB_inj {X : Cx} {pins : List (Addr × Obj)} {σ : L2.St} {H : Hp} {s : Shared} {a : Addr} {xs ys : List V} {t : Bool} (I : Inv X pins σ H s) (h : SqB t X.K H a xs) (h' : SqB t X.K H a ys) : xs = ys := by
  cases t with
  | true => exact I.list_inj h h'
  | false => exact I.tuple_inj h h'
def ItzM (K : PySem.W.Frag) (t1 t2 : Bool) (a b : Addr) : It :=
  ⟨fun i H => ∃ (xs ys : List V) (x y : V), SqB t1 K H a xs ∧ SqB t2 K H b ys ∧ xs[i]? = some x ∧ ys[i]? = some y,
    fun i H v H' => ∃ T x y, v = .ref T ∧ H T = none ∧ H' = upd H T (.tup [x, y]) ∧ (∀ xs, SqB t1 K H a xs → xs[i]? = some x) ∧ ∀ ys, SqB t2 K H b ys → ys[i]? = some y,
    fun i H => ∃ xs ys : List V, SqB t1 K H a xs ∧ SqB t2 K H b ys ∧ (xs.length ≤ i ∨ ys.length ≤ i)⟩
theorem turn_zipM {P : Program} {w : World} {K : PySem.W.Frag} {elts : List Expr} {kk : Nat} {tpos : Pos} {t1 t2 : Bool} {a b z TI TO i1 i2 : Addr} (D : ZipApart z TI TO i1 i2 a b) :
    Turn P w K (.Tuple elts kk tpos) (ItzM K t1 t2 a b) [z, TI, TO, i1, i2] z (fun i h => IsZip h z TI TO .none ∧ IsPair h TI (.ref i1) (.ref i2) ∧ (∃ x y, IsPair h TO x y) ∧ StB t1 i1 a h i ∧ StB t2 i2 b h i ∧ (∃ o, h.get? i1 = some o ∧ ∀ v, o.data ≠ .cell v) ∧ ∃ o, h.get? i2 = some o ∧ ∀ v, o.data ≠ .cell v) where
  mem := by simp
  obj := fun i h ⟨hz, hTI, ⟨x, y, hTO⟩, _, _, g1, g2⟩ c hc => by
    have e' : c = z ∨ c = TI ∨ c = TO ∨ c = i1 ∨ c = i2 := by simpa using hc
    rcases e' with rfl | rfl | rfl | rfl | rfl
    · exact ⟨_, hz, nofun⟩
    · exact ⟨_, hTI, nofun⟩
    · exact ⟨_, hTO, nofun⟩
    · exact g1
    · exact g2
  keep := fun i h h' ⟨hz, hTI, ⟨x, y, hTO⟩, h1, h2, ⟨o1, g1, n1⟩, ⟨o2, g2, n2⟩⟩ k =>
    ⟨k z (by simp) _ hz, k TI (by simp) _ hTI, ⟨x, y, k TO (by simp) _ hTO⟩, (nextB (xs := #[])).stAt h1 fun o q => k i1 (by simp) o q, (nextB (xs := #[])).stAt h2 fun o q => k i2 (by simp) o q, ⟨o1, k i1 (by simp) _ g1, n1⟩, ⟨o2, k i2 (by simp) _ g2, n2⟩⟩
  item := by
    intro X hP hw hK hc i pins s σ H E I hf st hg
    subst hP hw hK
    obtain ⟨hz, hTI, ⟨x0, y0, hTO⟩, h1, h2, ⟨o1, g1, n1⟩, ⟨o2, g2, n2⟩⟩ := st
    obtain ⟨xs, ys, x, y, hqx, hqy, hx, hy⟩ := hg
    obtain ⟨its, rv, p, _⟩ := sqB_at I hqx
    obtain ⟨its2, rv2, p2, _⟩ := sqB_at I hqy
    obtain ⟨u, hu, ru⟩ := rv.get hx
    obtain ⟨u2, hu2, ru2⟩ := rv2.get hy
    have hzl : z < s.heap.objs.size := Heap.lt_size hz
    refine zipK_item nextB nextB D hz hTI hTO ⟨o1, g1⟩ ⟨o2, g2⟩ h1 h2 p p2 (x := u) (y := u2) (by simpa using hu) (by simpa using hu2) fun h' z' TO' h1' h2' hT hk => ?_
    refine ⟨_, rfl, wpAny_letOwnedTupleGo_zip (s := { s with heap := h' }) z' fun h'' z'' sb => ?_⟩
    have hT2 : h''.get? s.heap.objs.size = some { cls := .type "tuple", data := .seq #[u, u2] } := (sb.2 _ (Nat.ne_of_gt hzl)).trans hT
    have nw : ObjOk X.prog X.w (upd H s.heap.objs.size (.tup [x, y])) h'' s.heap.objs.size (.tup [x, y]) := ⟨by show 2 ≤ sizeLine; decide, [u, u2], .cons ru (.cons ru2 .nil), ⟨_, hT2, rfl, _, rfl⟩⟩
    have out : ∀ c, c ∉ [z, TI, TO, i1, i2] → c ≠ z ∧ c ≠ TO ∧ c ≠ i1 ∧ c ≠ i2 := fun c hb => by simp at hb; exact ⟨hb.1, hb.2.2.1, hb.2.2.2.1, hb.2.2.2.2⟩
    have I1 : Inv X pins σ (upd H s.heap.objs.size (.tup [x, y])) { s with heap := h'' } :=
      I.turnedNew (t' := s.toks) (ch := [z, TI, TO, i1, i2]) (fun c o hb q => by obtain ⟨c1, c2, c3, c4⟩ := out c hb; exact (sb.2 c c1).trans (hk c o c1 c2 c3 c4 q)) hf (Nat.le_refl _) nw
    have it1 : ∃ o, h''.get? i1 = some o ∧ ∀ v, o.data ≠ .cell v := by
      cases t1 with
      | true => obtain ⟨o, ho, _, hd⟩ := h1'; exact ⟨o, (sb.2 _ D.i1z).trans ho, fun v q => by rw [hd] at q; cases q⟩
      | false => obtain ⟨o, ho, _, hd⟩ := h1'; exact ⟨o, (sb.2 _ D.i1z).trans ho, fun v q => by rw [hd] at q; cases q⟩
    have it2 : ∃ o, h''.get? i2 = some o ∧ ∀ v, o.data ≠ .cell v := by
      cases t2 with
      | true => obtain ⟨o, ho, _, hd⟩ := h2'; exact ⟨o, (sb.2 _ D.i2z).trans ho, fun v q => by rw [hd] at q; cases q⟩
      | false => obtain ⟨o, ho, _, hd⟩ := h2'; exact ⟨o, (sb.2 _ D.i2z).trans ho, fun v q => by rw [hd] at q; cases q⟩
    refine ⟨.ref s.heap.objs.size, _, I1, rfl, ⟨_, x, y, rfl, I.hok.fresh (Nat.le_refl _), rfl, fun l hl => by rw [sqB_inj I hl hqx]; exact hx, fun l hl => by rw [sqB_inj I hl hqy]; exact hy⟩,
      ⟨z'', (sb.2 _ D.TIz).trans (hk _ _ D.TIz D.TITO D.TIi1 D.TIi2 hTI), ⟨u, u2, (sb.2 _ D.TOz).trans TO'⟩, (nextB (xs := #[])).stAt h1' fun o q => (sb.2 _ D.i1z).trans q, (nextB (xs := #[])).stAt h2' fun o q => (sb.2 _ D.i2z).trans q, it1, it2⟩, fun c hcm => ?_⟩
    have hlt : c < s.heap.objs.size := by
      have e' : c = z ∨ c = TI ∨ c = TO ∨ c = i1 ∨ c = i2 := by simpa using hcm
      rcases e' with rfl | rfl | rfl | rfl | rfl
      · exact hzl
      · exact Heap.lt_size hTI
      · exact Heap.lt_size hTO
      · exact Heap.lt_size g1
      · exact Heap.lt_size g2
    rw [upd_ne (Nat.ne_of_lt hlt)]
    exact (hf c hcm).1
  done := by
    intro X hP hw hK hc i pins s σ H E I hf st hg
    subst hP hw hK
    obtain ⟨hz, hTI, ⟨x0, y0, hTO⟩, h1, h2, _⟩ := st
    obtain ⟨xs, ys, hqx, hqy, hend⟩ := hg
    obtain ⟨its, rv, p, _⟩ := sqB_at I hqx
    obtain ⟨its2, rv2, p2, _⟩ := sqB_at I hqy
    have l1 := rv.length
    have l2 := rv2.length
    have he : its.toArray[i]? = none ∨ its2.toArray[i]? = none := hend.elim (fun q => .inl (by simp; omega)) fun q => .inr (by simp; omega)
    refine zipK_end (I.ok.hd hc) nextB nextB D hz hTI hTO h1 h2 p p2 he fun h' hk => ⟨rfl, I.turnedL (t' := s.toks) (ch := [z, TI, TO, i1, i2]) (fun c o hb q => ?_) hf⟩
    simp at hb
    exact hk c o hb.1 hb.2.2.1 hb.2.2.2.1 hb.2.2.2.2 q
  self := fun A i s Q E st h => wpAny_pyIter_zip st.1 h
def itN (t : Bool) : String := if t then "list_iterator" else "tuple_iterator"
abbrev hp1 (t1 : Bool) (h : Heap) (l1 : Addr) : Heap := h.push { cls := .type (itN t1), data := .fields #[.ref l1, .int 0 0] }
abbrev hp2 (t1 t2 : Bool) (h : Heap) (l1 l2 : Addr) : Heap := (hp1 t1 h l1).push { cls := .type (itN t2), data := .fields #[.ref l2, .int 0 0] }
abbrev hp3 (t1 t2 : Bool) (h : Heap) (l1 l2 : Addr) : Heap := (hp2 t1 t2 h l1 l2).push { cls := .type "tuple", data := .seq #[.ref h.objs.size, .ref (hp1 t1 h l1).objs.size] }
abbrev hp4 (t1 t2 : Bool) (h : Heap) (l1 l2 : Addr) : Heap := (hp3 t1 t2 h l1 l2).push { cls := .type "tuple", data := .seq #[.none, .none] }
abbrev hp5 (t1 t2 : Bool) (h : Heap) (l1 l2 : Addr) : Heap := (hp4 t1 t2 h l1 l2).push { cls := .type "zip", data := .fields #[.none, .bool false, .bool false, .ref (hp2 t1 t2 h l1 l2).objs.size, .ref (hp3 t1 t2 h l1 l2).objs.size] }
theorem meets_TL (l1 l2 : Addr) (xs ys : Array Value) :
    Meets (Builtin.«zip.__new__» ⟨[.type "zip", .ref l1, .ref l2], []⟩) (fun _ R s => s.heap.IsTuple l1 xs ∧ s.heap.IsList l2 ys ∧ R (.ok (.ret (.ref (hp4 false true s.heap l1 l2).objs.size))) { s with heap := hp5 false true s.heap l1 l2 }) :=
  .of_wp fun prog w A R s h => by
    obtain ⟨hp, g, d, tk, os⟩ := s; obtain ⟨hl1, hl2, h⟩ := h
    have hsub := sub_zip
    have hA : Heap.IsTuple (Shared.heap ⟨hp, g, d, tk, os⟩) l1 xs := hl1
    have hB : Heap.IsList (Shared.heap ⟨hp.push { cls := .type "tuple_iterator", data := .fields #[.ref l1, .int 0 0] }, g, d, tk, os⟩) l2 ys := by obtain ⟨o, ho, r⟩ := hl2; exact ⟨o, Heap.get?_push_of_some _ ho, r⟩
    wp_walk using wpAny_pyIter_tuple hA, wpAny_pyIter_list hB
    exact ⟨_, rfl, h⟩
theorem meets_LT (l1 l2 : Addr) (xs ys : Array Value) :
    Meets (Builtin.«zip.__new__» ⟨[.type "zip", .ref l1, .ref l2], []⟩) (fun _ R s => s.heap.IsList l1 xs ∧ s.heap.IsTuple l2 ys ∧ R (.ok (.ret (.ref (hp4 true false s.heap l1 l2).objs.size))) { s with heap := hp5 true false s.heap l1 l2 }) :=
  .of_wp fun prog w A R s h => by
    obtain ⟨hp, g, d, tk, os⟩ := s; obtain ⟨hl1, hl2, h⟩ := h
    have hsub := sub_zip
    have hA : Heap.IsList (Shared.heap ⟨hp, g, d, tk, os⟩) l1 xs := hl1
    have hB : Heap.IsTuple (Shared.heap ⟨hp.push { cls := .type "list_iterator", data := .fields #[.ref l1, .int 0 0] }, g, d, tk, os⟩) l2 ys := by obtain ⟨o, ho, r⟩ := hl2; exact ⟨o, Heap.get?_push_of_some _ ho, r⟩
    wp_walk using wpAny_pyIter_list hA, wpAny_pyIter_tuple hB
    exact ⟨_, rfl, h⟩
section
variable {prog : Program} {w : World} {A : Around} {E : Value → Shared → Prop} {s : Shared}
theorem call_zipM {t1 t2 : Bool} (ht : t1 ≠ t2) {l1 l2 : Addr} {xs ys : Array Value} {Q : Value → Shared → Prop} (hl1 : LsB t1 l1 xs s.heap) (hl2 : LsB t2 l2 ys s.heap)
    (h : ∀ h', IsZip h' (s.heap.objs.size + 4) (s.heap.objs.size + 2) (s.heap.objs.size + 3) .none → IsPair h' (s.heap.objs.size + 2) (.ref s.heap.objs.size) (.ref (s.heap.objs.size + 1)) → IsPair h' (s.heap.objs.size + 3) .none .none →
      StB t1 s.heap.objs.size l1 h' 0 → StB t2 (s.heap.objs.size + 1) l2 h' 0 → (∃ o, h'.get? s.heap.objs.size = some o ∧ ∀ v, o.data ≠ .cell v) → (∃ o, h'.get? (s.heap.objs.size + 1) = some o ∧ ∀ v, o.data ≠ .cell v) → (∀ c o, s.heap.get? c = some o → h'.get? c = some o) → Q (.ref (s.heap.objs.size + 4)) { s with heap := h' }) :
    wpAny (model prog w) A (call (.type "zip") [.ref l1, .ref l2]) Q E s := by
  have fin : (∃ o, (hp5 t1 t2 s.heap l1 l2).get? (hp4 t1 t2 s.heap l1 l2).objs.size = some o ∧ o.cls = .type "zip") ∧ Q (.ref (hp4 t1 t2 s.heap l1 l2).objs.size) { s with heap := hp5 t1 t2 s.heap l1 l2 } := by
    have z1 : (hp1 t1 s.heap l1).objs.size = s.heap.objs.size + 1 := Heap.size_push ..
    have z2 : (hp2 t1 t2 s.heap l1 l2).objs.size = s.heap.objs.size + 2 := by rw [Heap.size_push, z1]
    have z3 : (hp3 t1 t2 s.heap l1 l2).objs.size = s.heap.objs.size + 3 := by rw [Heap.size_push, z2]
    have z4 : (hp4 t1 t2 s.heap l1 l2).objs.size = s.heap.objs.size + 4 := by rw [Heap.size_push, z3]
    have g5 : (hp5 t1 t2 s.heap l1 l2).get? (hp4 t1 t2 s.heap l1 l2).objs.size = some _ := Heap.get?_push_size _ rfl
    have g4 : (hp5 t1 t2 s.heap l1 l2).get? (hp3 t1 t2 s.heap l1 l2).objs.size = some _ := Heap.get?_push_of_some _ (Heap.get?_push_size _ rfl)
    have g3 : (hp5 t1 t2 s.heap l1 l2).get? (hp2 t1 t2 s.heap l1 l2).objs.size = some _ := Heap.get?_push_of_some _ (Heap.get?_push_of_some _ (Heap.get?_push_size _ rfl))
    have g2 : (hp5 t1 t2 s.heap l1 l2).get? (hp1 t1 s.heap l1).objs.size = some _ := Heap.get?_push_of_some _ (Heap.get?_push_of_some _ (Heap.get?_push_of_some _ (Heap.get?_push_size _ rfl)))
    have g1 : (hp5 t1 t2 s.heap l1 l2).get? s.heap.objs.size = some _ := Heap.get?_push_of_some _ (Heap.get?_push_of_some _ (Heap.get?_push_of_some _ (Heap.get?_push_of_some _ (Heap.get?_push_size _ rfl))))
    rw [z2, z3, z4] at g5
    rw [z1, z2] at g3
    rw [z3] at g4
    rw [z1] at g2
    rw [z4]
    refine ⟨⟨_, g5, rfl⟩, h _ g5 g3 g4 ?_ ?_ ⟨_, g1, fun v q => nomatch q⟩ ⟨_, g2, fun v q => nomatch q⟩ fun c o x => Heap.get?_push_of_some _ (Heap.get?_push_of_some _ (Heap.get?_push_of_some _ (Heap.get?_push_of_some _ (Heap.get?_push_of_some _ x))))⟩
    · cases t1 <;> exact ⟨_, g1, rfl, rfl⟩
    · cases t2 <;> exact ⟨_, g2, rfl, rfl⟩
  cases t1 with
  | true =>
    cases t2 with
    | true => exact absurd rfl ht
    | false => exact callType_new F.called_zip (by decide) (F.typeCall_zip_2 _ _) (F.newCall_zip_2 _ _) (fun obj => F.args_object_init_3 obj _ _) F.entry_zip_new (meets_LT l1 l2 xs ys) ⟨hl1, hl2, fin⟩
  | false =>
    cases t2 with
    | true => exact callType_new F.called_zip (by decide) (F.typeCall_zip_2 _ _) (F.newCall_zip_2 _ _) (fun obj => F.args_object_init_3 obj _ _) F.entry_zip_new (meets_TL l1 l2 xs ys) ⟨hl1, hl2, fin⟩
    | false => exact absurd rfl ht
end
def iZipM (K : PySem.W.Frag) (t1 t2 : Bool) (ta : TA) : L2.TI := fun σ H R => ta σ H fun vs H1 => ∃ a b xs ys, vs = [.ref a, .ref b] ∧ SqB t1 K H1 a xs ∧ SqB t2 K H1 b ys ∧ R (ItzM K t1 t2 a b) H1
theorem pi_zipM {X : Cx} {e e2 : Expr} {ta : TA} {p pos tpos : Pos} {elts : List Expr} {kk : Nat} {t1 t2 : Bool} (ht : t1 ≠ t2) (hg : Gl X "zip") (hm : X.mg "zip" = none) (ha : PA X [e, e2] ta)
    (hs : starEach [e, e2] X.env = (false, eval e X.env) :: starEach [e2] X.env := by rfl) (hpl : (backTo pos (starEach [e2] X.env)).any (·.1) = false := by rfl) : PI X (.Tuple elts kk tpos) (.Call (.Name "zip" p) [e, e2] [] pos) (iZipM X.K t1 t2 ta) := by
  refine ⟨fun pins s σ H R I h => ?_⟩
  refine Call_ (ld_blt I hg hm PyProof.Rows.boot_zip (PyProof.Rows.callWith_type1 (thn (ha.run pos pins s σ H _ I h) fun us s1 ⟨vs, H1, I1, r1, q1⟩ => ?_) hs hpl))
  obtain ⟨a, b, xs, ys, rfl, hqx, hqy, q⟩ := q1
  cases r1 with
  | cons r rr =>
  cases rr with
  | cons r' rr =>
  cases rr
  cases r
  cases r'
  obtain ⟨its, rv, p1, lt1⟩ := sqB_at I1 hqx
  obtain ⟨its2, rv2, p2, lt2⟩ := sqB_at I1 hqy
  refine call_zipM ht p1 p2 fun h' hz hTI hTO h1 h2 g1 g2 hk => wpAny_pyIter_zip hz ?_
  refine ⟨s1.heap.objs.size + 4, [s1.heap.objs.size + 4, s1.heap.objs.size + 2, s1.heap.objs.size + 3, s1.heap.objs.size, s1.heap.objs.size + 1], _, _, H1, rfl, I1.kept (t' := s1.toks) hk, turn_zipM (PySem.W.ktu_apart s1.heap.objs.size a b lt1 lt2), ⟨hz, hTI, ⟨_, _, hTO⟩, h1, h2, g1, g2⟩, fun c hcm => ?_, q⟩
  have hle : s1.heap.objs.size ≤ c := by
    simp only [List.mem_cons, List.not_mem_nil, or_false] at hcm
    rcases hcm with q | q | q | q | q <;> rw [q] <;> first | exact Nat.le_refl _ | exact Nat.le_add_right _ _
  exact I1.fpOk hle (I1.hok.fresh hle)
end RM
namespace DL
open PySem PySem.Spec PyProof.Rows L2 WM RM
section
variable {X : Cx} {F : Hp} {ρ : Rho} {a b c e f tg : Expr} {es : List Expr} {pos p2 p : Pos} {d d1 d2 d3 : PyData} {ds : List PyData} {ι κ : Type}
/-- data in a list (true) or a tuple (false) -/
def dB (t : Bool) (ds : List PyData) : PyData := if t then .list ds else .tuple ds
theorem dp_B {t : Bool} {K : PySem.W.Frag} {H : Hp} {v : V} {ds : List PyData} (h : Dp K H v (dB t ds)) : ∃ q xs, v = .ref q ∧ SqB t K H q xs ∧ DpAll K H xs ds := by
  cases t with
  | true => exact dp_lst h
  | false => exact dp_tup h
/-- the walk over the pairs, whatever keeps both sequences -/
theorem walk_zipM {t1 t2 : Bool} {K : PySem.W.Frag} {H : Hp} {q r : Addr} {xs ys : List V} {es1 es2 : List PyData} (hq : SqB t1 K H q xs) (hxs : DpAll K H xs es1) (hr : SqB t2 K H r ys) (hys : DpAll K H ys es2) :
    (∀ i, i < (pairs es1 es2).length → (ItzM K t1 t2 q r).go i H) ∧ (ItzM K t1 t2 q r).stop (pairs es1 es2).length H ∧ ∀ i x H' d, (pairs es1 es2)[i]? = some d → (ItzM K t1 t2 q r).yld i H x H' → Same H H' ∧ Dp K H' x d := by
  have l1 := dpA_len hxs
  have l2 := dpA_len hys
  have lz : (pairs es1 es2).length = min es1.length es2.length := by simp [pairs]
  refine ⟨fun i hi => ⟨xs, ys, xs[i]'(by omega), ys[i]'(by omega), hq, hr, by rw [List.getElem?_eq_getElem], by rw [List.getElem?_eq_getElem]⟩, ⟨xs, ys, hq, hr, by omega⟩, fun i z H' d hd y => ?_⟩
  obtain ⟨T, x', y', rfl, hT, rfl, h1, h2⟩ := y
  obtain ⟨x1, y1, hx1, hy1, rfl⟩ := pairs_get hd
  obtain ⟨v1, hv1, dv1⟩ := dpA_get hxs hx1
  obtain ⟨v2, hv2, dv2⟩ := dpA_get hys hy1
  have e2 := h1 xs hq
  have e3 := h2 ys hr
  rw [hv1] at e2
  rw [hv2] at e3
  cases e2
  cases e3
  exact ⟨Same.new hT, .tup (SqT.of upd_same) (.cons (dp_mono (Same.new hT) dv1) (.cons (dp_mono (Same.new hT) dv2) .nil))⟩
theorem sqB_mono {t : Bool} {K : PySem.W.Frag} {H H' : Hp} {q : Addr} {xs : List V} (e : Same H H') (h : SqB t K H q xs) : SqB t K H' q xs := by
  cases t with
  | true => exact e.seq h
  | false => exact seqT_mono e h
theorem it_zM {elts : List Expr} {kk : Nat} {tpos : Pos} {t1 t2 : Bool} {f1 : ι → PyData} {f2 : κ → PyData} {xs : List ι} {ys : List κ} (ht : t1 ≠ t2) (hm : X.mg "zip" = none) (ha : ED X F ρ a (dB t1 (xs.map f1))) (hb : ED X F ρ b (dB t2 (ys.map f2))) (hg : Gl X "zip" := by rfl) (hs : starEach [a, b] X.env = (false, eval a X.env) :: starEach [b] X.env := by rfl)
    (hs2 : starEach [b] X.env = (false, eval b X.env) :: starEach [] X.env := by rfl) (hpl : (backTo pos (starEach [b] X.env)).any (·.1) = false := by rfl) : IT X F ρ (.Tuple elts kk tpos) (.Call (.Name "zip" p) [a, b] [] pos) ((xs.zip ys).map fun q => .tuple [f1 q.1, f2 q.2]) := fun σ H R E k => by
  refine ofI (pi_zipM ht hg hm pa_w hs hpl) ?_
  refine (ea_cons ha (ea_cons hb ea_nil hs2) hs) σ H _ E fun vs H1 e1 dvs => ?_
  obtain ⟨v, u, rfl, dv, du⟩ := dpA2 dvs
  obtain ⟨q, zs, rfl, hq, hxs⟩ := dp_B dv
  obtain ⟨r, ws, rfl, hr, hys⟩ := dp_B du
  refine ⟨q, r, zs, ws, rfl, hq, hr, k _ _ e1 fun H2 e => ?_⟩
  rw [← zip_pairs]
  exact walk_zipM (sqB_mono e hq) (dpA_mono e hxs) (sqB_mono e hr) (dpA_mono e hys)
/-- .. while other things change: the tuples and the list at l stay -/
theorem im_zTL {elts : List Expr} {kk : Nat} {tpos : Pos} {f1 : ι → PyData} {f2 : κ → PyData} {xs : List ι} {ys : List κ} {l : Addr} (hm : X.mg "zip" = none) (ha : ED X F ρ a (.tuple (xs.map f1))) (hb : EV X F ρ b (.ref l)) (hl : Dp X.K F (.ref l) (.list (ys.map f2))) (i1 : ∀ x, imm (f1 x) = true) (i2 : ∀ x, imm (f2 x) = true) (hg : Gl X "zip" := by rfl) (hs : starEach [a, b] X.env = (false, eval a X.env) :: starEach [b] X.env := by rfl)
    (hs2 : starEach [b] X.env = (false, eval b X.env) :: starEach [] X.env := by rfl) (hpl : (backTo pos (starEach [b] X.env)).any (·.1) = false := by rfl) :
    ∀ σ H R, EnvOk X.K F H σ ρ → (∀ J H1, Same H H1 → WalkM X.K J H1 (fun H2 => TK X.K H1 H2 ∧ Same F H2) ((xs.zip ys).map fun q => .tuple [f1 q.1, f2 q.2]) → R J H1) → wI X (.Tuple elts kk tpos) (.Call (.Name "zip" p) [a, b] [] pos) σ H R := fun σ H R E k => by
  refine ofI (pi_zipM (t1 := false) (t2 := true) (by decide) hg hm (pa_cons pe_w (pa_cons pe_w pa_nil hs2) hs) hs hpl) ?_
  refine ha σ H _ E fun v H1 e1 dv => ?_
  refine hb σ H1 _ (E.mono e1) fun H2 e2 => ?_
  have dv2 := dp_mono e2 dv
  obtain ⟨q, zs, rfl, hq, hxs⟩ := dp_tup dv2
  obtain ⟨_, ws, h0, hr, hys⟩ := dp_lst hl
  cases h0
  have eF : Same F H2 := ((E.mono e1).mono e2).2.2
  refine ⟨q, l, zs, ws, rfl, hq, eF.seq hr, k _ _ (e1.trans e2) fun H3 ⟨t3, s3⟩ => ?_⟩
  rw [← zip_pairs]
  have him1 : immL (xs.map f1) = true := immL_iff.mpr fun d hd => by obtain ⟨x, _, rfl⟩ := List.mem_map.mp hd; exact i1 x
  exact walk_zipM (t1 := false) (t2 := true) (t3 _ _ hq) (dpA_tk t3 _ him1 hxs) (s3.seq hr) (dpA_mono s3 hys)
end
end DL
end
section
namespace DL
open PySem PySem.Spec PyProof.Rows L2 WM RM
section
variable {X : Cx} {F : Hp} {ρ : Rho} {a b c e f tg : Expr} {es : List Expr} {rest : List Stmt} {pos p2 p : Pos} {d d1 d2 d3 : PyData} {ds : List PyData} {ι κ : Type} {D : Ends} {x y : Str}
theorem sqL_keep {K : PySem.W.Frag} {H H' : Hp} {l c : Addr} {ws : List V} (h : SqL K H l ws) (k : Keep (· = c) H H') (hc : H c = none ∨ l ≠ c) : SqL K H' l ws := by
  rcases h with (h | ⟨o, h⟩) | h
  · exact .inl (.inl (k _ _ h fun z => by rcases hc with q | q; · { rw [← z, h] at q; cases q }; · exact q z))
  · exact .inl (.inr ⟨o, k _ _ h fun z => by rcases hc with q | q; · { rw [← z, h] at q; cases q }; · exact q z⟩)
  · exact .inr h
/-- a, b = e1, e2 (two locals) -/
theorem rb_par (i j : Nat) {px py pt : Pos} {kt k2 : Nat} {pt2 : Pos} (ha : ED X F ρ a d1) (hb : ED X F ρ b d2) (k : RB X F ((ρ.set i (some (.dat d1))).set j (some (.dat d2))) rest D) (hc : X.calm = true) (hN : X.N.Nodup) (hij : i ≠ j := by decide) (hi : X.N[i]? = some x := by rfl) (hj : X.N[j]? = some y := by rfl)
    (hx : X.env.scope.names.lookup x = some .local := by rfl) (hy : X.env.scope.names.lookup y = some .local := by rfl)
    (hw : swappedStores [.Tuple [.Name x px, .Name y py] kt pt] (.Tuple [a, b] k2 pt2) X.env = pure (some [x, y]) := by rfl)
    (hs : swapsWithSole [.Tuple [.Name x px, .Name y py] kt pt] (.Tuple [a, b] k2 pt2) pos.line X.env = pure false := by rfl)
    (hs1 : starEach [a, b] X.env = (false, eval a X.env) :: starEach [b] X.env := by rfl) (hs2 : starEach [b] X.env = (false, eval b X.env) :: starEach [] X.env := by rfl) : RB X F ρ (.Assign [.Tuple [.Name x px, .Name y py] kt pt] (.Tuple [a, b] k2 pt2) pos :: rest) D :=
  rb_step fun σ H E => ofS (ps_par hc hN hi hj hij hx hy (pa_cons pe_w (pa_cons pe_w pa_nil hs2) hs1) hw hs) (ha σ H _ E fun u H1 e1 du => hb σ H1 _ (E.mono e1) fun v H2 e2 dv =>
    ⟨u, v, rfl, k _ _ ((((E.mono e1).mono e2).set (dp_mono e2 du)).set dv)⟩)
/-- a, b = objects (two locals) -/
theorem rb_parX (i j : Nat) {px py pt : Pos} {kt k2 : Nat} {pt2 : Pos} {r1 r2 : Slot} (ha : EX X F ρ a r1) (hb : EX X F ρ b r2) (k : RB X F ((ρ.set i (some r1)).set j (some r2)) rest D) (hc : X.calm = true) (hN : X.N.Nodup) (hij : i ≠ j := by decide) (hi : X.N[i]? = some x := by rfl) (hj : X.N[j]? = some y := by rfl)
    (hx : X.env.scope.names.lookup x = some .local := by rfl) (hy : X.env.scope.names.lookup y = some .local := by rfl)
    (hw : swappedStores [.Tuple [.Name x px, .Name y py] kt pt] (.Tuple [a, b] k2 pt2) X.env = pure (some [x, y]) := by rfl)
    (hs : swapsWithSole [.Tuple [.Name x px, .Name y py] kt pt] (.Tuple [a, b] k2 pt2) pos.line X.env = pure false := by rfl)
    (hs1 : starEach [a, b] X.env = (false, eval a X.env) :: starEach [b] X.env := by rfl) (hs2 : starEach [b] X.env = (false, eval b X.env) :: starEach [] X.env := by rfl) : RB X F ρ (.Assign [.Tuple [.Name x px, .Name y py] kt pt] (.Tuple [a, b] k2 pt2) pos :: rest) D :=
  rb_step fun σ H E => ofS (ps_par hc hN hi hj hij hx hy (pa_cons pe_w (pa_cons pe_w pa_nil hs2) hs1) hw hs) (ha σ H _ E fun u H1 e1 du => hb σ H1 _ (E.mono e1) fun v H2 e2 dv =>
    ⟨u, v, rfl, k _ _ ((((E.mono e1).mono e2).setS (du.mono e2)).setS dv)⟩)
/-- zip of a tuple and a list at l while another list changes -/
theorem im_zTL2 {elts : List Expr} {kk : Nat} {tpos : Pos} {f1 : ι → PyData} {f2 : κ → PyData} {xs : List ι} {ys : List κ} {l : Addr} {ws : List V} (hm : X.mg "zip" = none) (ha : ED X F ρ a (.tuple (xs.map f1))) (hb : EV X F ρ b (.ref l)) (hl : SqL X.K F l ws) (hws : DpAll X.K F ws (ys.map f2)) (i1 : ∀ x, imm (f1 x) = true) (i2 : ∀ x, imm (f2 x) = true) (hg : Gl X "zip" := by rfl) (hs : starEach [a, b] X.env = (false, eval a X.env) :: starEach [b] X.env := by rfl)
    (hs2 : starEach [b] X.env = (false, eval b X.env) :: starEach [] X.env := by rfl) (hpl : (backTo pos (starEach [b] X.env)).any (·.1) = false := by rfl) :
    ∀ σ H R, EnvOk X.K F H σ ρ → (∀ J H1, Same H H1 → WalkM X.K J H1 (fun H2 => TK X.K H1 H2 ∧ SqL X.K H2 l ws) ((xs.zip ys).map fun q => .tuple [f1 q.1, f2 q.2]) → R J H1) → wI X (.Tuple elts kk tpos) (.Call (.Name "zip" p) [a, b] [] pos) σ H R := fun σ H R E k => by
  refine ofI (pi_zipM (t1 := false) (t2 := true) (by decide) hg hm (pa_cons pe_w (pa_cons pe_w pa_nil hs2) hs) hs hpl) ?_
  refine ha σ H _ E fun v H1 e1 dv => ?_
  refine hb σ H1 _ (E.mono e1) fun H2 e2 => ?_
  have dv2 := dp_mono e2 dv
  obtain ⟨q, zs, rfl, hq, hxs⟩ := dp_tup dv2
  have eF : Same F H2 := ((E.mono e1).mono e2).2.2
  refine ⟨q, l, zs, ws, rfl, hq, eF.seq hl, k _ _ (e1.trans e2) fun H3 ⟨t3, s3⟩ => ?_⟩
  rw [← zip_pairs]
  have him1 : immL (xs.map f1) = true := immL_iff.mpr fun d hd => by obtain ⟨x, _, rfl⟩ := List.mem_map.mp hd; exact i1 x
  have him2 : immL (ys.map f2) = true := immL_iff.mpr fun d hd => by obtain ⟨x, _, rfl⟩ := List.mem_map.mp hd; exact i2 x
  exact walk_zipM (t1 := false) (t2 := true) (t3 _ _ hq) (dpA_tk t3 _ him1 hxs) s3 (dpA_tk t3 _ him2 (dpA_mono eF hws))
end
end DL
end
section
namespace DL
open PySem PySem.Spec PyProof.Rows L2 WM RM
section
variable {X : Cx} {F : Hp} {ρ : Rho} {a b c e f tg : Expr} {es : List Expr} {rest : List Stmt} {pos p2 p : Pos} {d d1 d2 d3 : PyData} {ds : List PyData} {xs : List Slot} {r r1 r2 : Slot} {D : Ends} {x y : Str} {Kn : Rho → Prop} {P : PyData → Prop} {k j : Nat}
theorem ex_callX {R : RelX} (c : Cal X.prog X.w X.K X.mg X.base k x (spX X.K R)) (hr : Room j X.A) (hk : k ≤ j) (ha : EAS X F ρ (e :: es) xs) (hR : R xs r) (hg : Gl X x := by rfl)
    (hdb : (x == ("__debug__" : Str)) = false := by decide) (he : starEach (e :: es) X.env = (false, eval e X.env) :: starEach es X.env := by rfl) (hpl : (backTo pos (starEach es X.env)).any (·.1) = false := by rfl) :
    EX X F ρ (.Call (.Name x p) (e :: es) [] pos) r := fun σ H Q E k => by
  refine ofE (pe_cal c hr hk hg pa_w hdb he hpl) ?_
  refine ha σ H _ E fun vs H1 e1 dvs => ⟨xs, r, by rw [List.append_nil]; exact dvs, hR, fun v H' e2 dv => k v H' (e1.trans e2) dv⟩
theorem bd_setX (i : Nat) (h : EX X F ρ e r) (k : BD X F (ρ.set i (some r)) rest Kn P) (hN : X.N.Nodup) (hi : X.N[i]? = some x := by rfl) (hx : Loc X.env.scope x := by first | exact Or.inl rfl | exact Or.inr rfl)
    (hs : swapsWith e (some (.Name x p)) pos.line X.env = pure false := by rfl) (hf : X.fn x = true ∨ X.env.scope.names.lookup x = some .local := by first | exact .inl rfl | exact .inr rfl) : BD X F ρ (.Assign [.Name x p] e pos :: rest) Kn P :=
  bd_step fun σ H D E q => ofS (ps_set hN hi hx pe_w hs hf) (h σ H _ E fun v H' e1 dv => q _ _ _ k e1 ((E.mono e1).setS dv))
theorem bd_parX (i j : Nat) {px py pt : Pos} {kt k2 : Nat} {pt2 : Pos} (ha : EX X F ρ a r1) (hb : EX X F ρ b r2) (k : BD X F ((ρ.set i (some r1)).set j (some r2)) rest Kn P) (hc : X.calm = true) (hN : X.N.Nodup) (hij : i ≠ j := by decide) (hi : X.N[i]? = some x := by rfl) (hj : X.N[j]? = some y := by rfl)
    (hx : X.env.scope.names.lookup x = some .local := by rfl) (hy : X.env.scope.names.lookup y = some .local := by rfl)
    (hw : swappedStores [.Tuple [.Name x px, .Name y py] kt pt] (.Tuple [a, b] k2 pt2) X.env = pure (some [x, y]) := by rfl)
    (hs : swapsWithSole [.Tuple [.Name x px, .Name y py] kt pt] (.Tuple [a, b] k2 pt2) pos.line X.env = pure false := by rfl)
    (hs1 : starEach [a, b] X.env = (false, eval a X.env) :: starEach [b] X.env := by rfl) (hs2 : starEach [b] X.env = (false, eval b X.env) :: starEach [] X.env := by rfl) : BD X F ρ (.Assign [.Tuple [.Name x px, .Name y py] kt pt] (.Tuple [a, b] k2 pt2) pos :: rest) Kn P :=
  bd_step fun σ H D E q => ofS (ps_par hc hN hi hj hij hx hy (pa_cons pe_w (pa_cons pe_w pa_nil hs2) hs1) hw hs) (ha σ H _ E fun u H1 e1 du => hb σ H1 _ (E.mono e1) fun v H2 e2 dv =>
    ⟨u, v, rfl, q _ _ _ k (e1.trans e2) ((((E.mono e1).mono e2).setS (du.mono e2)).setS dv)⟩)
end
end DL
end
section
namespace DL
open WM
/-! ### what the law asks, in plain terms -/
def dotV (u v : List Int) : Int := ((u.zip v).map fun q => q.1 * q.2).sum
theorem snoc_of {α : Type} {n : Nat} {u : List α} (h : u.length = n + 1) : ∃ u' x, u = u' ++ [x] ∧ u'.length = n := by
  have hne : u ≠ [] := fun e => by rw [e] at h; simp at h
  exact ⟨u.dropLast, u.getLast hne, (List.dropLast_concat_getLast hne).symm, by rw [List.length_dropLast]; omega⟩
theorem dotV_eq : ∀ {n : Nat} {u v : List Int}, u.length = n → v.length = n → dotV u v = dot n (ix u) (ix v)
  | 0, u, v, hu, hv => by
    rw [List.length_eq_zero_iff.mp hu]
    simp [dotV, dot]
  | n + 1, u, v, hu, hv => by
    obtain ⟨u', x, rfl, hu'⟩ := snoc_of hu
    obtain ⟨v', y, rfl, hv'⟩ := snoc_of hv
    have ih := dotV_eq hu' hv'
    have e1 : dotV (u' ++ [x]) (v' ++ [y]) = dotV u' v' + x * y := by
      unfold dotV
      rw [List.zip_append (by omega), List.map_append, List.sum_append]
      simp
    have e2 : dot (n + 1) (ix (u' ++ [x])) (ix (v' ++ [y])) = dot n (ix (u' ++ [x])) (ix (v' ++ [y])) + x * y := by
      have a1 : ix (u' ++ [x]) n = x := by unfold ix; rw [List.getD_eq_getElem?_getD, List.getElem?_append_right (by omega)]; simp [hu']
      have a2 : ix (v' ++ [y]) n = y := by unfold ix; rw [List.getD_eq_getElem?_getD, List.getElem?_append_right (by omega)]; simp [hv']
      show _ + ix (u' ++ [x]) n * ix (v' ++ [y]) n = _
      rw [a1, a2]
    have e3 : dot n (ix (u' ++ [x])) (ix (v' ++ [y])) = dot n (ix u') (ix v') := by
      have := dot_congr (M := 0) (n := n) (u := ix (u' ++ [x])) (u' := ix u') (v := ix (v' ++ [y])) (v' := ix v') (fun i hi => by rw [ix_append_l (by omega)]; exact dv0 (by omega)) (fun i hi => by rw [ix_append_l (by omega)]; exact dv0 (by omega))
      have := Int.zero_dvd.mp this
      omega
    rw [e1, e2, e3, ih]
def isZ (n : Nat) (A B : List (List Int)) : Bool := A.all fun a => B.all fun b => decide (dotV a b % 2 ^ n = 0)
section
variable {n m : Nat} {A B C S : List (List Int)}
theorem isZ_iff (hA : ∀ a ∈ A, a.length = m) (hB : ∀ b ∈ B, b.length = m) : isZ n A B = true ↔ ∀ a ∈ A, ∀ b ∈ B, (2 : Int) ^ n ∣ dot m (ix a) (ix b) := by
  unfold isZ
  rw [List.all_eq_true]
  constructor
  · intro h a ha b hb
    have := List.all_eq_true.mp (h a ha) b hb
    rw [← dotV_eq (hA a ha) (hB b hb)]
    exact Int.dvd_of_emod_eq_zero (of_decide_eq_true this)
  · intro h a ha
    refine List.all_eq_true.mpr fun b hb => decide_eq_true ?_
    rw [dotV_eq (hA a ha) (hB b hb)]
    exact Int.emod_eq_zero_of_dvd (h a ha b hb)
theorem ann_cong {u : Fn} (h : ∀ f, SpB n m A f ↔ SpB n m B f) : Ann n m A u ↔ Ann n m B u :=
  ⟨fun q s hs => q.sp ((h _).mpr (.mem hs)), fun q s hs => q.sp ((h _).mp (.mem hs))⟩
theorem ann_app {u : Fn} : Ann n m (A ++ B) u ↔ Ann n m A u ∧ Ann n m B u :=
  ⟨fun q => ⟨fun s hs => q s (List.mem_append_left _ hs), fun s hs => q s (List.mem_append_right _ hs)⟩, fun ⟨q, r⟩ s hs => (List.mem_append.mp hs).elim (q s) (r s)⟩
/-- what is perpendicular to the annihilator is the module -/
theorem ann_annB (hn : 0 < n) (hB : ∀ v ∈ B, IsVec n m v) {f : Fn} : Ann n m (annB n m B) f ↔ SpB n m B f := by
  rw [sp_iff_ann]
  have h := (annB_ok hn hB).2
  constructor
  · intro q u hu
    have := q.sp ((h u).mpr hu)
    rw [dot_comm]; exact this
  · intro q s hs
    have := q (ix s) ((h _).mp (.mem hs))
    rw [dot_comm]; exact this
theorem sp_app {f : Fn} : SpB n m (A ++ B) f → ∃ g, SpB n m A g ∧ SpB n m B (fun i => f i - g i) := by
  intro h
  induction h with
  | zero h0 => exact ⟨fun _ => 0, .zero fun i _ => dv0 rfl, .zero fun i hi => dv1 1 (h0 i hi) (by grind)⟩
  | @add x v s k hs h1 h2 ih =>
    obtain ⟨g, g1, g2⟩ := ih
    rcases List.mem_append.mp hs with q | q
    · exact ⟨fun i => g i + k * ix s i, .add (k := k) q g1 fun i _ => dv0 (by grind), g2.congr fun i hi => dv1 1 (h2 i hi) (by grind)⟩
    · exact ⟨g, g1, .add (k := k) q g2 fun i hi => dv1 1 (h2 i hi) (by grind)⟩
theorem app_sp {f g : Fn} (h : SpB n m A g) (h' : SpB n m B (fun i => f i - g i)) : SpB n m (A ++ B) f := ((h.mono fun s hs => List.mem_append_left _ hs).plus (h'.mono fun s hs => List.mem_append_right _ hs)).congr fun i _ => dv0 (by grind)
theorem app_cong {A' B' : List (List Int)} (h : ∀ f, SpB n m A f ↔ SpB n m A' f) (h' : ∀ f, SpB n m B f ↔ SpB n m B' f) (f : Fn) : SpB n m (A ++ B) f ↔ SpB n m (A' ++ B') f :=
  ⟨fun q => by obtain ⟨g, g1, g2⟩ := sp_app q; exact app_sp ((h g).mp g1) ((h' _).mp g2), fun q => by obtain ⟨g, g1, g2⟩ := sp_app q; exact app_sp ((h g).mpr g1) ((h' _).mpr g2)⟩
theorem vec_app (hA : ∀ v ∈ A, IsVec n m v) (hB : ∀ v ∈ B, IsVec n m v) : ∀ v ∈ A ++ B, IsVec n m v := fun v hv => (List.mem_append.mp hv).elim (hA v) (hB v)
theorem annB_ann (hn : 0 < n) (hB : ∀ v ∈ B, IsVec n m v) : annB n m (annB n m B) = basF n m B := by
  have h1 := annB_ok hn hB
  have h2 := annB_ok hn h1.1.1
  exact (basF_eq h2.1 fun f => (h2.2 f).trans (ann_annB hn hB)).symm
theorem annB_self (hn : 0 < n) (hB : Bas n m B) : annB n m (annB n m B) = B := by rw [annB_ann hn hB.1, basF_eq hB fun _ => Iff.rfl]
noncomputable def meet (n m : Nat) (A B : List (List Int)) : List (List Int) := annB n m (annB n m A ++ annB n m B)
theorem meet_ok (hn : 0 < n) (hA : ∀ v ∈ A, IsVec n m v) (hB : ∀ v ∈ B, IsVec n m v) : Bas n m (meet n m A B) ∧ ∀ f, SpB n m (meet n m A B) f ↔ SpB n m A f ∧ SpB n m B f := by
  have h := annB_ok hn (vec_app (annB_ok hn hA).1.1 (annB_ok hn hB).1.1)
  refine ⟨h.1, fun f => (h.2 f).trans ?_⟩
  rw [ann_app, ann_annB hn hA, ann_annB hn hB]
/-- annihilators exchange sums and intersections -/
theorem ann_join (hn : 0 < n) (hA : ∀ v ∈ A, IsVec n m v) (hB : ∀ v ∈ B, IsVec n m v) : annB n m (basF n m (A ++ B)) = meet n m (annB n m A) (annB n m B) := by
  have hS := basF_ok (vec_app hA hB)
  have h1 := annB_ok hn hS.1.1
  have kA := annB_ok hn hA
  have kB := annB_ok hn hB
  have h2 := meet_ok hn kA.1.1 kB.1.1
  refine Bas.unique h1.1 h2.1 fun f => (h1.2 f).trans (Iff.trans ?_ (h2.2 f).symm)
  rw [ann_cong hS.2, ann_app, kA.2, kB.2]
theorem ann_meet (hn : 0 < n) (hA : ∀ v ∈ A, IsVec n m v) (hB : ∀ v ∈ B, IsVec n m v) : annB n m (meet n m A B) = basF n m (annB n m A ++ annB n m B) := annB_ann hn (vec_app (annB_ok hn hA).1.1 (annB_ok hn hB).1.1)
/-- the modular identity -/
theorem modular (hn : 0 < n) (hA : ∀ v ∈ A, IsVec n m v) (hB : ∀ v ∈ B, IsVec n m v) (hC : ∀ v ∈ C, IsVec n m v) :
    basF n m (A ++ meet n m B (basF n m (A ++ C))) = meet n m (basF n m (A ++ B)) (basF n m (A ++ C)) := by
  have kC := basF_ok (vec_app hA hC)
  have kB := basF_ok (vec_app hA hB)
  have h1 := meet_ok hn hB kC.1.1
  have h2 := meet_ok hn kB.1.1 kC.1.1
  refine basF_eq h2.1 fun f => (h2.2 f).trans ?_
  rw [kB.2, kC.2]
  have inA : ∀ {g : Fn} {D : List (List Int)}, SpB n m A g → SpB n m (A ++ D) g := fun q => q.mono fun s hs => List.mem_append_left _ hs
  constructor
  · rintro ⟨q, r⟩
    obtain ⟨g, g1, g2⟩ := sp_app q
    refine app_sp g1 ((h1.2 _).mpr ⟨g2, (kC.2 _).mpr ?_⟩)
    exact (r.comb (inA g1) 1 (-1)).congr fun i _ => dv0 (by grind)
  · intro q
    obtain ⟨g, g1, g2⟩ := sp_app q
    obtain ⟨g3, g4⟩ := (h1.2 _).mp g2
    exact ⟨app_sp g1 g3, ((inA g1).plus ((kC.2 _).mp g4)).congr fun i _ => dv0 (by grind)⟩
/-- a target against the annihilator -/
theorem isZ_ann (hn : 0 < n) (hS : ∀ v ∈ S, IsVec n m v) {v : List Int} (hv : IsVec n m v) : isZ n (annB n m (basF n m S)) [v] = true ↔ SpB n m S (ix v) := by
  have hB := basF_ok hS
  have hA := annB_ok hn hB.1.1
  rw [isZ_iff (m := m) (fun a ha => (hA.1.1 a ha).1) (fun b hb => by rw [List.mem_singleton.mp hb]; exact hv.1), ← hB.2, ← ann_annB hn hB.1.1]
  constructor
  · intro h s hs
    rw [dot_comm]; exact h s hs v (List.mem_singleton.mpr rfl)
  · intro h a ha b hb
    rw [List.mem_singleton.mp hb, dot_comm]
    exact h a ha
theorem isZ_dual (hn : 0 < n) (hB : ∀ v ∈ B, IsVec n m v) : isZ n B (annB n m B) = true := by
  have hA := annB_ok hn hB
  rw [isZ_iff (m := m) (fun a ha => (hB a ha).1) fun b hb => (hA.1.1 b hb).1]
  intro a ha b hb
  have := (hA.2 (ix b)).mp (.mem hb) a ha
  rw [dot_comm]; exact this
theorem cnt_dual (hn : 0 < n) (hB : Bas n m B) : cntP n B 1 * cntP n (annB n m B) 1 = 2 ^ (n * m) := cnt_ann hB (annB_ok hn hB.1).1 (annB_ok hn hB.1).2
theorem cnt_pair (hn : 0 < n) (hA : Bas n m A) (hB : Bas n m B) : cntP n A 1 * cntP n B 1 = cntP n (basF n m (A ++ B)) 1 * cntP n (meet n m A B) 1 := by
  have hS := basF_ok (vec_app hA.1 hB.1)
  have hC := meet_ok hn hA.1 hB.1
  exact cnt_sum hA hB hS.1 hC.1 hS.2 hC.2
/-- one vector more -/
theorem basF_step {s : List Int} (hA : ∀ v ∈ A, IsVec n m v) (hs : IsVec n m s) : basF n m (basF n m A ++ basF n m [s]) = basF n m (A ++ [s]) := by
  have h1 : ∀ v ∈ [s], IsVec n m v := fun v hv => by rw [List.mem_singleton.mp hv]; exact hs
  have k := basF_ok (vec_app hA h1)
  exact basF_eq k.1 fun f => (k.2 f).trans (app_cong (fun f => ((basF_ok hA).2 f).symm) (fun f => ((basF_ok h1).2 f).symm) f)
/-- the annihilator of all -/
theorem ann_whole (hn : 0 < n) : annB n m (basF n m ((List.range m).map fun i => unitV m i)) = [] := by
  have hU : ∀ v ∈ (List.range m).map fun i => unitV m i, IsVec n m v := fun v hv => by obtain ⟨i, _, rfl⟩ := List.mem_map.mp hv; exact isVec_unit hn
  have hB := basF_ok hU
  have hA := annB_ok hn hB.1.1
  refine Bas.unique hA.1 ⟨(fun _ h => nomatch h), trivial⟩ fun f => (hA.2 f).trans ?_
  rw [ann_cong hB.2]
  constructor
  · intro h
    refine .zero fun i hi => ?_
    have h1 := h (unitV m i) (List.mem_map.mpr ⟨i, List.mem_range.mpr hi, rfl⟩)
    rw [dot_comm] at h1
    have h2 : (2 : Int) ^ n ∣ dot m (ix (unitV m i)) f - dot m (unit i) f := dot_congr (fun j hj => dv0 (by rw [ix_unit hj]; unfold unit; omega)) fun _ _ => dv0 (by omega)
    rw [dot_unit hi] at h2
    exact dv2 1 (-1) h1 h2 (by grind)
  · intro h s hs
    have h0 := h.nil
    have h1 : (2 : Int) ^ n ∣ dot m f (ix s) - dot m (fun _ => 0 * f 0 + 0 * f 0) (ix s) := dot_congr (fun i hi => dv1 1 (h0 i hi) (by grind)) fun _ _ => dv0 (by omega)
    have h2 := dot_lin (v := ix s) 0 0 (fun _ => f 0) (fun _ => f 0) m
    rw [h2] at h1
    exact dv1 1 h1 (by grind)
/-! ### combinations -/
def stepS (n : Nat) (f v : List Int) (w : Int) : List Int := (f.zip v).map fun q => (q.1 + w * q.2) % 2 ^ n
def lsum (n m : Nat) (S : List (List Int)) (ws : List Int) : List Int := (S.zip ws).foldl (fun f q => stepS n f q.1 q.2) (List.replicate m 0)
theorem stepS_ok {f v : List Int} {w : Int} (hf : f.length = m) (hv : v.length = m) : IsVec n m (stepS n f v w) ∧ ∀ i, i < m → (2 : Int) ^ n ∣ ix (stepS n f v w) i - (ix f i + w * ix v i) := by
  have hp := pow_pos2 n
  refine ⟨⟨by simp [stepS, hf, hv], fun x hx => ?_⟩, fun i hi => ?_⟩
  · obtain ⟨y, _, rfl⟩ := List.mem_map.mp hx
    exact ⟨Int.emod_nonneg _ (Int.ne_of_gt hp), Int.emod_lt_of_pos _ hp⟩
  · have e : ix (stepS n f v w) i = (ix f i + w * ix v i) % 2 ^ n := by
      unfold stepS ix
      have h1 : i < f.length := by omega
      have h2 : i < v.length := by omega
      have h3 : i < (f.zip v).length := by simp; omega
      simp [List.getD_eq_getElem?_getD, List.getElem?_eq_getElem h1, List.getElem?_eq_getElem h2, List.getElem?_eq_getElem h3]
    rw [e]; exact emod_sub
theorem lsum_gen : ∀ {S : List (List Int)} {ws f : List Int}, (∀ v ∈ S, v.length = m) → ws.length = S.length → IsVec n m f →
    IsVec n m ((S.zip ws).foldl (fun f q => stepS n f q.1 q.2) f) ∧ ∀ j, j < m → (2 : Int) ^ n ∣ ix ((S.zip ws).foldl (fun f q => stepS n f q.1 q.2) f) j - (ix f j + comb S (ix ws) j)
  | [], ws, f, _, _, hf => ⟨hf, fun j hj => dv0 (by simp [comb])⟩
  | s :: S, [], f, _, h, _ => by simp at h
  | s :: S, w :: ws, f, hS, hw, hf => by
    have h1 := stepS_ok (n := n) (w := w) hf.1 (hS s List.mem_cons_self)
    have h2 := lsum_gen (S := S) (ws := ws) (f := stepS n f s w) (fun v hv => hS v (List.mem_cons_of_mem _ hv)) (by simpa using hw) h1.1
    refine ⟨h2.1, fun j hj => ?_⟩
    have e : comb (s :: S) (ix (w :: ws)) j = w * ix s j + comb S (ix ws) j := rfl
    rw [e]
    exact dv2 1 1 (h2.2 j hj) (h1.2 j hj) (by rw [List.zip_cons_cons, List.foldl_cons]; grind)
theorem lsum_ok {S : List (List Int)} {ws : List Int} (hS : ∀ v ∈ S, v.length = m) (hw : ws.length = S.length) : IsVec n m (lsum n m S ws) ∧ ∀ j, j < m → (2 : Int) ^ n ∣ ix (lsum n m S ws) j - comb S (ix ws) j := by
  have h := lsum_gen (n := n) (f := List.replicate m 0) hS hw isVec_zero
  exact ⟨h.1, fun j hj => dv1 1 (h.2 j hj) (by rw [ix_zero]; unfold lsum; grind)⟩
theorem lsum_sp {S : List (List Int)} {ws : List Int} (hS : ∀ v ∈ S, v.length = m) (hw : ws.length = S.length) : SpB n m S (ix (lsum n m S ws)) := (comb_sp (M := 2 ^ n) (x := ix ws)).congr (lsum_ok hS hw).2
end
end DL
end
section
namespace K86
open PySem PySem.Spec PyProof.Rows L2 DL WM
section
variable {P : Program} {w : World} {K : PySem.W.Frag} {mg : Str → Option Value} {base : Heap}
theorem Top.mf (T : Top K mg) (i : Nat) {b : Bool} (h : (mFacts K)[i]? = some b) : b = true := by simpa using List.all_eq_true.mp (Bool.and_eq_true_iff.mp T.more).2 b (List.mem_of_getElem? h)
theorem Top.Module_c (T : Top K mg) : Cls K (mC K) := He.cls_ok (T.fa_ok 9 rfl)
theorem Top.Module_n_w (T : Top K mg) : NoAttr K (mC K) "own_width" := He.noat_ok (T.fa_ok 10 rfl)
theorem Top.Module_n_s (T : Top K mg) : NoAttr K (mC K) "own_size" := He.noat_ok (T.fa_ok 11 rfl)
theorem Top.Module_n_r (T : Top K mg) : NoAttr K (mC K) "own_rows" := He.noat_ok (T.fa_ok 12 rfl)
theorem Top.Module_mk (T : Top K mg) : Mk K (mC K) (He.ma K (mC K) "__init__") := He.mkr_ok (T.fa_ok 13 rfl)
theorem Top.Module_m_bases_with (T : Top K mg) : Meth K (mC K) "bases_with" (He.ma K (mC K) "bases_with") := He.meth_ok (T.fa_ok 14 rfl)
theorem Top.Module_m_made (T : Top K mg) : Meth K (mC K) "made" (He.ma K (mC K) "made") := He.meth_ok (T.fa_ok 15 rfl)
theorem Top.Module_m_plus (T : Top K mg) : Meth K (mC K) "plus" (He.ma K (mC K) "plus") := He.meth_ok (T.fa_ok 16 rfl)
theorem Top.Module_m_common (T : Top K mg) : Meth K (mC K) "common" (He.ma K (mC K) "common") := He.meth_ok (T.fa_ok 17 rfl)
theorem Top.Module_m_dual (T : Top K mg) : Meth K (mC K) "dual" (He.ma K (mC K) "dual") := He.meth_ok (T.fa_ok 18 rfl)
theorem Top.Module_m_members (T : Top K mg) : Meth K (mC K) "members" (He.ma K (mC K) "members") := He.meth_ok (T.fa_ok 19 rfl)
theorem Top.Module_m_eq (T : Top K mg) : Meth K (mC K) "__eq__" (He.ma K (mC K) "__eq__") := He.meth_ok (T.fa_ok 20 rfl)
theorem Top.basisProp (T : Top K mg) : PropOf K (mC K) "basis" (He.ma K (mC K) "basis") (wfo K (mC K) "property" "basis") where
  at_ := He.eqO_ok (T.mf 0 rfl)
  get := He.eqO_ok (T.mf 1 rfl)
  tak := of_decide_eq_true (T.mf 2 rfl)
  rec_ := by
    have h := T.mf 3 rfl
    unfold wfo
    split at h
    · rename_i f r e
      exact ⟨r, by rw [e]⟩
    · cases h
theorem Top.zeroMet (T : Top K mg) : ClX.CMet K (mC K) (.type "type") "zero" (He.ma K (mC K) "zero") (He5.wf K (mC K) "classmethod" "zero") := He5.cmet_of (T.mf 4 rfl) (T.mf 5 rfl)
theorem Top.wholeMet (T : Top K mg) : ClX.CMet K (mC K) (.type "type") "whole" (He.ma K (mC K) "whole") (He5.wf K (mC K) "classmethod" "whole") := He5.cmet_of (T.mf 6 rfl) (T.mf 7 rfl)
theorem Top.cread (T : Top K mg) : ClX.CRead K (mC K) (.type "type") := ⟨T.mf 8 rfl, He.eqO_ok (T.mf 9 rfl)⟩
theorem Top.most (T : Top K mg) : ∃ t, Con K (mC K) "MOST" (.int 4096) (.int 4096 t) := by
  have h := T.mf 10 rfl
  split at h
  · rename_i i t e
    obtain ⟨h1, h2⟩ := Bool.and_eq_true_iff.mp h
    have := of_decide_eq_true h1
    subst this
    exact ⟨t, e, ⟨t, rfl⟩, He.eqO_ok h2, by decide⟩
  · cases h
theorem Top.insC (T : Top K mg) : C8.InsC K (mC K) := ⟨T.Module_c, He.eqO_ok (T.mf 11 rfl), He.eqO_ok (T.mf 12 rfl), of_decide_eq_true (T.mf 13 rfl), of_decide_eq_true (T.mf 14 rfl), of_decide_eq_true (T.mf 16 rfl)⟩
theorem Top.ownQ (T : Top K mg) : OwnQ K (mC K) (He.ma K (mC K) "__eq__") := ⟨T.Module_m_eq.at_, T.Module_m_eq.fn, He.eqO_ok (T.mf 15 rfl), of_decide_eq_true (T.mf 14 rfl)⟩
theorem pvt_facts {n m c : Nat} {r : List Int} (hl : Lead n m r c) (hr : IsVec n m r) : (r.filter fun x => decide (0 < x))[0]? = some (pvt r) ∧ 0 < pvt r ∧ pvt r ≤ 2 ^ n := by
  have hp := hl.pos
  have e := lead_pvt hl
  obtain ⟨_, _, k, hk, ek⟩ := hl
  refine ⟨?_, by rw [e]; exact hp, ?_⟩
  · unfold pvt at *
    rw [List.getD_eq_getElem?_getD] at *
    cases z : (r.filter fun x => decide (0 < x))[0]? with
    | some x => rfl
    | none => rw [z] at e; simp at e; omega
  · rw [e, ek]; exact Int.le_of_lt (pow_lt_pow hk)
abbrev R_with_multiples : RelF := fun ds P => ∃ (n m : Nat) (F : List (List Int)) (r : List Int), ds = [.int (n : Int), dLM F, dV r] ∧ (n ≤ 16 ∧ m ≤ 1000 ∧ F.length ≤ 1000 ∧ F.length * ((2 : Int) ^ n / pvt r).toNat ≤ 100000) ∧ (∀ v ∈ F, IsVec n m v) ∧ (IsVec n m r ∧ ∃ c, Lead n m r c) ∧ P = (· = dLM (wmF n F r))
theorem cal_with_multiples (T : Top K mg) : Cal P w K mg base 3 "with_multiples" (spR K R_with_multiples) := by
  obtain ⟨fd, F⟩ := T.def_ i_with_multiples rfl
  have sc : FnScope ["wide", "vectors", "row", "pivot", "multiples", "word", "factor", "vector", "multiple"] ["wide", "vectors", "row"] (defScope s_with_multiples) := ⟨rfl, rfl, rfl, by decide +kernel, rfl, by decide +kernel, by decide +kernel⟩
  have scN := sc.nd
  refine calRB (k := 2) F (T.glo j_with_multiples rfl) sc (fun _ _ _ _ _ _ us hl => match us, hl with | [_, _, _], _ => rfl) (fun ds P' h => ?_) (fun cd A outer s H E ds P' vs hr h hds => ?_)
  · obtain ⟨n, m, F, r, rfl, _⟩ := h
    rfl
  · obtain ⟨n, m, G, r, rfl, ⟨b1, b2, b3, b4⟩, hG, ⟨hr', c, hl⟩, rfl⟩ := h
    obtain ⟨p1, p2, p3⟩ := pvt_facts hl hr'
    have hrl := hr'.1
    have SL : EnvOk K H H (L2.start ["wide", "vectors", "row", "pivot", "multiples", "word", "factor", "vector", "multiple"] vs) (rhoS ["wide", "vectors", "row", "pivot", "multiples", "word", "factor", "vector", "multiple"] [.dat (.int (n : Nat)), .dat (dLM G), .dat (dV r)]) := env_startS (slAll_ds hds)
    refine (?_ : RB _ H (rhoS ["wide", "vectors", "row", "pivot", "multiples", "word", "factor", "vector", "multiple"] [.dat (.int (n : Nat)), .dat (dLM G), .dat (dV r)]) _ _) _ H SL
    have q0 : 0 ≤ (2 : Int) ^ n / pvt r := Int.ediv_nonneg (Int.le_of_lt (pow_pos2 n)) (Int.le_of_lt p2)
    have n16 : (2 : Int) ^ n ≤ 2 ^ 16 := by
      have : 2 ^ n ≤ 2 ^ 16 := Nat.pow_le_pow_right (by decide) b1
      exact_mod_cast this
    have q1 : (2 : Int) ^ n / pvt r ≤ 65536 := by
      have h1 : (2 : Int) ^ n / pvt r ≤ 2 ^ n := Int.ediv_le_self _ (Int.le_of_lt (pow_pos2 n))
      omega
    refine rb_set 3 (d := .int (pvt r)) (ed_ixL (ed_lcIf (own := [("word", 5)]) (js := [5]) rfl scN (it_tup (ed_var 2 rfl)) (blkOk_by (N := ["wide", "vectors", "row", "pivot", "multiples", "word", "factor", "vector", "multiple"]) (sc := (defScope s_with_multiples)) (by decide +kernel)) (fun _ _ _ _ _ => pg_name (i := 5) scN rfl (by first | exact Or.inl rfl | exact Or.inr rfl)) (by decide) (fun i hi => tg_name) (fun s H C cl fp i hi => (td_gt (ed_var 5 rfl) ed_int)) (fun s H C cl fp i hi hp => (ed_var 5 rfl)) ?_ ?_) ed_int ?_) ?_ scN
    · exact fun _ _ => rfl
    · omega
    · rw [List.getElem?_map, p1]; rfl
    refine rb_setDV 4 (d := dLM ((List.range ((2 : Int) ^ n / pvt r).toNat).map fun f : Nat => mulV n r f)) (ed_eq (ed_lc (own := [("factor", 6)]) (js := [6]) rfl scN (it_rng1 T.f_range (ed_eq (ed_div (ed_call (cal_modulus_of T) hr (by decide) (ea_cons (ed_var 0 rfl) ea_nil) ⟨_, rfl, ?_, rfl⟩) (ed_var 3 rfl) ?_) (show PyData.int ((2 : Int) ^ n / pvt r) = .int ((((2 : Int) ^ n / pvt r).toNat : Nat) : Int) by rw [Int.toNat_of_nonneg q0])) ?_) (blkOk_by (N := ["wide", "vectors", "row", "pivot", "multiples", "word", "factor", "vector", "multiple"]) (sc := (defScope s_with_multiples)) (by decide +kernel)) (fun _ _ _ _ _ => pg_name (i := 6) scN rfl (by first | exact Or.inl rfl | exact Or.inr rfl)) (by decide) (fun i hi => tg_name) (fun s H C cl fp i hi => (ed_call (cal_multiple_by T) hr (by decide) (ea_cons (ed_var 0 rfl) (ea_cons (ed_var 2 rfl) (ea_cons (ed_var 6 rfl) ea_nil))) ⟨_, _, _, rfl, ?_, ?_, ?_, rfl⟩)) ?_ ?_) ?_) ?_ scN
    · omega
    · exact wide_div (b := 17) p2 (natAbs_lt (n := 17) (Int.le_of_lt p2) (by omega) (by omega)) (by omega) (by omega)
    · omega
    · omega
    · omega
    · have hi16 : (((i : Nat) : Int)) < 2 ^ 17 := by have := List.mem_range.mp ‹_›; omega
      exact ⟨natAbs_lt (n := 17) (by omega) hi16 (by omega), fun x hx => vec_small hr' (by omega) x hx⟩
    · exact fun _ _ => imm_dV _
    · rw [List.length_range]; omega
    · simp [dLM]
    intro H1 v e1 dv
    obtain ⟨q, xs, rfl, hq, hx⟩ := dp_lst dv
    refine rb_ret (d := dLM (wmF n G r)) (ed_eq (ed_lc2 (own := [("vector", 7), ("multiple", 8)]) (js := [7]) (js1 := [8]) (vs1 := [8]) rfl scN (it_lst (ed_var 1 rfl)) (blkOk_by (N := ["wide", "vectors", "row", "pivot", "multiples", "word", "factor", "vector", "multiple"]) (sc := (defScope s_with_multiples)) (by decide +kernel)) (by decide) (fun _ _ _ _ _ => pg_name (i := 7) scN rfl (by first | exact Or.inl rfl | exact Or.inr rfl)) (by decide) (fun i hi => tg_name) (fun s H C cl fp i hi => (imx_lst (ev_var 4 rfl) dv ?_)) (fun _ _ _ _ _ => pg_name (i := 8) scN rfl (by first | exact Or.inl rfl | exact Or.inr rfl)) (by decide) (fun i hi k hk => tg_name) (fun s H C cl fp i hi k hk => (ed_call (cal_sum_by T) hr (by decide) (ea_cons (ed_var 0 rfl) (ea_cons (ed_var 7 rfl) (ea_cons (ed_var 8 rfl) ea_nil))) ⟨_, _, _, rfl, ?_, ?_, rfl⟩)) ?_ ?_ ?_) ?_) ?_
    · intro d hd
      obtain ⟨f, _, rfl⟩ := List.mem_map.mp hd
      exact imm_dV _
    · omega
    · rw [(hG _ ‹_›).1]; omega
    · exact fun i hi z x hx => match z, hx with
        | 0, hx => .inr ⟨by decide, hx⟩
        | 1, hx => .inr ⟨by decide, hx⟩
        | 2, hx => .inr ⟨by decide, hx⟩
        | 3, hx => .inr ⟨by decide, hx⟩
        | 4, hx => .inr ⟨by decide, hx⟩
        | 5, hx => by cases hx
        | 6, hx => by cases hx
        | 7, hx => .inl (by cases hx; exact imm_dV _)
        | 8, hx => by cases hx
        | _ + 9, hx => by cases hx
    · exact fun _ _ _ _ => imm_dV _
    · have e : (G.map fun i => ((List.range ((2 : Int) ^ n / pvt r).toNat).map fun f : Nat => mulV n r f).map fun k => dV (sumV n i k)).flatten.length = (wmF n G r).length := by
        unfold wmF addV
        rw [List.flatMap_def, List.length_flatten, List.length_flatten]
        congr 1
        rw [List.map_map, List.map_map]
        exact List.map_congr_left fun i _ => by simp
      rw [e, wm_len]; exact b4
    · show PyData.list _ = PyData.list ((wmF n G r).map fun v => dV v)
      unfold wmF addV
      rw [List.flatMap_def, List.map_flatten, List.map_map]
      congr 2
      exact List.map_congr_left fun i _ => by simp
    · exact fun v2 H2 e2 dv2 => ⟨_, rfl, e1.trans e2, dv2⟩
end
end K86
end
section
namespace K86
open PySem PySem.Spec PyProof.Rows L2 DL WM
section
variable {P : Program} {w : World} {K : PySem.W.Frag} {mg : Str → Option Value} {base : Heap}
abbrev MoC (n m : Nat) : Prop := (1 ≤ n ∧ n ≤ 16) ∧ 1 ≤ m ∧ m ≤ 10
abbrev mkOk (n m : Nat) (S : List (List Int)) : Prop := MoC n m ∧ S.length ≤ 1000 ∧ ∀ v ∈ S, IsVec n m v
def spMI (K : PySem.W.Frag) : Sp := fun vs H Q _ => ∃ (q dx : Addr) (n m : Nat) (S : List (List Int)), SlAll K H vs [.val (.ref q), .dat (.int (n : Nat)), .dat (.int (m : Nat)), .dat (dM S)] ∧ H q = some (.ins (mC K) dx []) ∧ mkOk n m S ∧
  ∀ H' v, Keep (· = q) H H' → H' q = some (.ins (mC K) dx (MoF n m v)) → Dp K H' v (dM (basF n m S)) → Q .non H'
theorem mk_Module (T : Top K mg) : MkM P w K mg base 8 (mC K) "Module" (fun n m S => basF n m S) (fun n m S => mkOk n m S) := by
  obtain ⟨fd, F⟩ := T.def_ i_Module___init__ rfl
  have sc : FnScope ["self", "width", "size", "vectors"] ((["self", "width", "size"] : List Str) ++ (["vectors"] : List Str)) (defScope s_Module___init__) := ⟨rfl, rfl, rfl, by decide +kernel, rfl, by decide +kernel, by decide +kernel⟩
  have scN := sc.nd
  refine ⟨_, T.Module_mk, T.glo j_Module rfl, (fnS (k := 7) (sp := spMI K) F sc (fun kV doc pm an cdv ct => bind_star3 (B := fun us => bindArgs (PySem.W.fnOf "__init__" "Module.__init__" d_Module___init__.params d_Module___init__.body d_Module___init__.scope .none kV doc pm an cdv ct) ⟨us, []⟩) (fun _ _ _ => by first | rfl | kernel_rfl) (fun _ _ _ _ _ => by first | rfl | kernel_rfl)) (fun cd A outer s H vs Q E hr h => ?_)).imp fun vs H Q E h => ?_⟩
  · obtain ⟨q, dx, n, m, S, h1, hq, ⟨⟨c1, c2, c3⟩, c4, c5⟩, k⟩ := h
    refine (?_ : RB _ H (rhoS ["self", "width", "size", "vectors"] [.val (.ref q), .dat (.int (n : Nat)), .dat (.int (m : Nat)), .dat (dM S)]) _ _) _ H (env_startS h1)
    have im0 : immR (rhoS ["self", "width", "size", "vectors"] [.val (.ref q), .dat (.int (n : Nat)), .dat (.int (m : Nat)), .dat (dM S)]) := immR_S (immR_cons rfl (immR_cons rfl (immR_cons rfl (immR_cons (imm_dM S) immR_nil))))
    refine rb_exprD (d := .none) (ed_call (cal_require_width_and_size T) hr (by decide) (ea_cons (ed_var 1 rfl) (ea_cons (ed_var 2 rfl) ea_nil)) ⟨_, _, rfl, ?_, rfl⟩) ?_
    · exact ⟨c1, by omega⟩
    refine rb_exprD (d := .none) (ed_call (cal_require_vectors T) hr (by decide) (ea_cons (ed_var 1 rfl) (ea_cons (ed_var 2 rfl) (ea_cons (ed_var 3 rfl) ea_nil))) ⟨_, _, _, rfl, ?_, ?_, ?_, ?_, rfl⟩) ?_
    · omega
    · omega
    · omega
    · exact c5
    refine rb_fld (ev_var 0 rfl) hq T.Module_c T.Module_n_w (by decide) (ed_var 1 rfl) rfl im0 fun H1 v1 k1 t1 hq1 dv1 => ?_
    rw [dp_int dv1] at hq1
    refine rb_fld (ev_var 0 rfl) hq1 T.Module_c T.Module_n_s (Nat.lt_of_le_of_lt (Nat.le_of_eq (by rfl : _ = 1)) (by decide)) (ed_var 2 rfl) rfl im0 fun H2 v2 k2 t2 hq2 dv2 => ?_
    rw [dp_int dv2] at hq2
    refine rb_fld (ev_var 0 rfl) hq2 T.Module_c T.Module_n_r (Nat.lt_of_le_of_lt (Nat.le_of_eq (by rfl : _ = 2)) (by decide)) (d := dM (basF n m S)) (ed_call (cal_basis_by T) hr (by decide) (ea_cons (ed_var 1 rfl) (ea_cons (ed_var 2 rfl) (ea_cons (ed_var 3 rfl) ea_nil))) ⟨_, _, _, _, rfl, ?_, ?_, ?_, rfl⟩) (imm_dM _) im0 fun H3 v3 k3 t3 hq3 dv3 => rb_nil fun σ4 H4 E4 => ?_
    · exact .inl rfl
    · exact ⟨by omega, by omega⟩
    · exact c5
    · have e4 := E4.2.2
      exact k H4 v3 (((k1.trans k2).trans k3).trans (Keep.of e4)) (e4 _ _ hq3) (dp_mono e4 dv3)
  · obtain ⟨q, dx, n, m, S, ws, rfl, hws, hq, hok, k⟩ := h
    have hl := dpA_len hws
    rw [List.length_map] at hl
    refine ⟨[.ref q, .int (n : Int), .int (m : Int)], ws, rfl, rfl, by rw [sizeLine_eq]; have := hok.2.1; omega, fun p hp => ?_⟩
    have e : Same H (upd H p (.tup ws)) := Same.new hp
    exact ⟨q, dx, n, m, S, .cons rfl (.cons (.int _) (.cons (.int _) (.cons (.tup (SqT.of upd_same) (dpA_mono e hws)) .nil))), e _ _ hq, hok, fun H' v kp h1 h2 => k H' v ((Keep.of e).trans kp) h1 h2⟩
abbrev R_mbasis (K : PySem.W.Frag) : RelX := fun xs r => ∃ (n m : Nat) (B : List (List Int)), xs = [sMo K (mC K) n m B] ∧ r = .dat (dM B)
theorem fn_basis (T : Top K mg) : ∃ fd ps, FnOk P w K mg base CX0 1 (wfo K (mC K) "property" "basis") fd ps (spX K (R_mbasis K)) ∧ Binds K fd ps [] := by
  obtain ⟨fd, F⟩ := T.def_ i_Module_basis rfl
  have sc : FnScope ["self"] ["self"] (defScope s_Module_basis) := ⟨rfl, rfl, rfl, by decide +kernel, rfl, by decide +kernel, by decide +kernel⟩
  have scN := sc.nd
  refine ⟨fd, _, fnB (k := 0) F sc (fun vs H Q E h => ?_) (fun cd A outer s H vs Q E hr h => ?_), F.bindsN (fun _ _ _ _ _ _ us hl => match us, hl with | [_], _ => rfl)⟩
  · obtain ⟨xs, r, h1, ⟨n, m, B, rfl, rfl⟩, k⟩ := h
    exact slAll_len h1
  · obtain ⟨xs, r, h1, ⟨n, m, B, rfl, rfl⟩, k⟩ := h
    refine (?_ : RB _ H (rhoS ["self"] [sMo K (mC K) n m B]) _ _) _ H (env_startS h1)
    exact rb_retX (ex_ed (ed_mor (ex_var 0 rfl) T.Module_c T.Module_n_r)) fun v H' e dv => k v H' e dv
abbrev R_made (K : PySem.W.Frag) : RelX := fun xs r => ∃ (n m : Nat) (B S : List (List Int)) (d : PyData), xs = [sMo K (mC K) n m B, .dat d] ∧ (d = dM S ∨ d = dLM S) ∧ mkOk n m S ∧ r = sMo K (mC K) n m (basF n m S)
theorem met_made (T : Top K mg) : MetR P w K mg base 10 (mC K) "made" (spX K (R_made K)) := by
  obtain ⟨fd, F⟩ := T.def_ i_Module_made rfl
  have sc : FnScope ["self", "rows"] ["self", "rows"] (defScope s_Module_made) := ⟨rfl, rfl, rfl, by decide +kernel, rfl, by decide +kernel, by decide +kernel⟩
  have scN := sc.nd
  refine ⟨_, T.Module_c, T.Module_m_made, fnR_of (fnB (k := 9) F sc (fun vs H Q E h => ?_) (fun cd A outer s H vs Q E hr h => ?_)) (F.bindsN (fun _ _ _ _ _ _ us hl => match us, hl with | [_, _], _ => rfl))⟩
  · obtain ⟨xs, r, h1, ⟨n, m, B, S, d, rfl, hd, hok, rfl⟩, k⟩ := h
    exact slAll_len h1
  · obtain ⟨xs, r, h1, ⟨n, m, B, S, d, rfl, hd, hok, rfl⟩, k⟩ := h
    refine (?_ : RB _ H (rhoS ["self", "rows"] [sMo K (mC K) n m B, .dat d]) _ _) _ H (env_startS h1)
    exact rb_retX (ex_mkS (mk_Module T) hr (by decide) (ed_mow (ex_var 0 rfl) T.Module_c T.Module_n_w) (ed_mos (ex_var 0 rfl) T.Module_c T.Module_n_s) (ed_var 1 rfl) hd hok) fun v H' e dv => k v H' e dv
abbrev R_dual (K : PySem.W.Frag) : RelX := fun xs r => ∃ (n m : Nat) (B : List (List Int)), xs = [sMo K (mC K) n m B] ∧ MoC n m ∧ Bas n m B ∧ r = sMo K (mC K) n m (annB n m B)
theorem basF_self {n m : Nat} {B : List (List Int)} (h : Bas n m B) : basF n m B = B := basF_eq h fun _ => Iff.rfl
theorem met_dual (T : Top K mg) : MetA P w K mg base 11 (mC K) "dual" (spX K (R_dual K)) := by
  obtain ⟨fd, F⟩ := T.def_ i_Module_dual rfl
  have sc : FnScope ["self"] ["self"] (defScope s_Module_dual) := ⟨rfl, rfl, rfl, by decide +kernel, rfl, by decide +kernel, by decide +kernel⟩
  have scN := sc.nd
  refine metB (k := 10) F sc T.Module_c T.Module_m_dual (fun _ _ _ _ _ _ us hl => match us, hl with | [_], _ => rfl) (fun vs H Q E h => ?_) (fun cd A outer s H vs Q E hr h => ?_)
  · obtain ⟨xs, r, h1, ⟨n, m, B, rfl, _⟩, k⟩ := h
    exact slAll_len h1
  · obtain ⟨xs, r, h1, ⟨n, m, B, rfl, ⟨c1, c2, c3⟩, hB, rfl⟩, k⟩ := h
    have hA := (annB_ok c1.1 hB.1).1
    have hAl := bas_len hA
    have hBl := bas_len hB
    refine (?_ : RB _ H (rhoS ["self"] [sMo K (mC K) n m B]) _ _) _ H (env_startS h1)
    refine rb_retX (ex_meth (met_made T) hr (by decide) (ex_var 0 rfl) (eas_cons (ed_call (cal_annihilator_by T) hr (by decide) (ea_cons (ed_mow (ex_var 0 rfl) T.Module_c T.Module_n_w) (ea_cons (ed_mos (ex_var 0 rfl) T.Module_c T.Module_n_s) (ea_cons (ed_mor (ex_var 0 rfl) T.Module_c T.Module_n_r) ea_nil))) ⟨_, _, _, rfl, ?_, ?_, rfl⟩) eas_nil) ⟨n, m, B, annB n m B, dM (annB n m B), rfl, .inl rfl, ⟨⟨c1, c2, c3⟩, by omega, hA.1⟩, by rw [basF_self hA]; rfl⟩) fun v H' e dv => k v H' e dv
    · exact ⟨c1, by omega⟩
    · exact hB.1
abbrev R_zero (K : PySem.W.Frag) : RelX := fun xs r => ∃ (n m : Nat), xs = [.val (.ref (mC K)), .dat (.int (n : Nat)), .dat (.int (m : Nat))] ∧ MoC n m ∧ r = sMo K (mC K) n m []
theorem bas_nil {n m : Nat} : Bas n m [] := ⟨(fun _ h => nomatch h), trivial⟩
theorem fn_zero (T : Top K mg) : FnR P w K mg base CX0 10 (He5.wf K (mC K) "classmethod" "zero") (spX K (R_zero K)) := by
  obtain ⟨fd, F⟩ := T.def_ i_Module_zero rfl
  have sc : FnScope ["cls", "width", "size"] ["cls", "width", "size"] (defScope s_Module_zero) := ⟨rfl, rfl, rfl, by decide +kernel, rfl, by decide +kernel, by decide +kernel⟩
  have scN := sc.nd
  refine fnR_of (fnB (k := 9) F sc (fun vs H Q E h => ?_) (fun cd A outer s H vs Q E hr h => ?_)) (F.bindsN (fun _ _ _ _ _ _ us hl => match us, hl with | [_, _, _], _ => rfl))
  · obtain ⟨xs, r, h1, ⟨n, m, rfl, _⟩, k⟩ := h
    exact slAll_len h1
  · obtain ⟨xs, r, h1, ⟨n, m, rfl, hc, rfl⟩, k⟩ := h
    refine (?_ : RB _ H (rhoS ["cls", "width", "size"] [.val (.ref (mC K)), .dat (.int (n : Nat)), .dat (.int (m : Nat))]) _ _) _ H (env_startS h1)
    have e0 := basF_self (bas_nil (n := n) (m := m))
    refine rb_retX (ex_eq (ex_mkL 0 (S := []) (mk_Module T) hr (by decide) rfl (ea_cons (ed_var 1 rfl) (ea_cons (ed_var 2 rfl) ea_nil)) ⟨hc, by simp, fun _ h => nomatch h⟩) (by rw [e0]; rfl)) fun v H' e dv => k v H' e dv
abbrev R_whole (K : PySem.W.Frag) : RelX := fun xs r => ∃ (n m : Nat), xs = [.val (.ref (mC K)), .dat (.int (n : Nat)), .dat (.int (m : Nat))] ∧ MoC n m ∧ r = sMo K (mC K) n m (basF n m ((List.range m).map fun i => unitV m i))
theorem fn_whole (T : Top K mg) : FnR P w K mg base CX0 10 (He5.wf K (mC K) "classmethod" "whole") (spX K (R_whole K)) := by
  obtain ⟨fd, F⟩ := T.def_ i_Module_whole rfl
  have sc : FnScope ["cls", "width", "size", "units"] ["cls", "width", "size"] (defScope s_Module_whole) := ⟨rfl, rfl, rfl, by decide +kernel, rfl, by decide +kernel, by decide +kernel⟩
  have scN := sc.nd
  refine fnR_of (fnB (k := 9) F sc (fun vs H Q E h => ?_) (fun cd A outer s H vs Q E hr h => ?_)) (F.bindsN (fun _ _ _ _ _ _ us hl => match us, hl with | [_, _, _], _ => rfl))
  · obtain ⟨xs, r, h1, ⟨n, m, rfl, _⟩, k⟩ := h
    exact slAll_len h1
  · obtain ⟨xs, r, h1, ⟨n, m, rfl, ⟨c1, c2, c3⟩, rfl⟩, k⟩ := h
    refine (?_ : RB _ H (rhoS ["cls", "width", "size", "units"] [.val (.ref (mC K)), .dat (.int (n : Nat)), .dat (.int (m : Nat))]) _ _) _ H (env_startS h1)
    refine rb_exprD (d := .none) (ed_call (cal_require_width_and_size T) hr (by decide) (ea_cons (ed_var 1 rfl) (ea_cons (ed_var 2 rfl) ea_nil)) ⟨_, _, rfl, ?_, rfl⟩) ?_
    · exact ⟨c1, by omega⟩
    refine rb_set 3 (d := dM ((List.range m).map fun i => unitV m i)) (ed_call (cal_whole_basis T) hr (by decide) (ea_cons (ed_var 2 rfl) ea_nil) ⟨_, rfl, ?_, rfl⟩) ?_ scN
    · omega
    refine rb_retX (ex_mkLS 0 (S := (List.range m).map fun i => unitV m i) (mk_Module T) hr (by decide) rfl (ed_var 1 rfl) (ed_var 2 rfl) (ed_var 3 rfl) (.inl rfl) ⟨⟨c1, c2, c3⟩, by rw [List.length_map, List.length_range]; omega, fun v hv => ?_⟩) fun v H' e dv => k v H' e dv
    obtain ⟨i, _, rfl⟩ := List.mem_map.mp hv
    exact isVec_unit c1.1
/-! ### two modules of one kind -/
abbrev sT1 (K : PySem.W.Frag) (n m : Nat) (B : List (List Int)) : Slot := .pr (T1 K (Mo K (mC K) n m B))
abbrev R_bw (K : PySem.W.Frag) : RelX := fun xs r => ∃ (n m : Nat) (B B2 : List (List Int)), xs = [sMo K (mC K) n m B, sT1 K n m B2] ∧ r = .dat (dLMs [B, B2])
theorem met_bases_with (T : Top K mg) : MetR P w K mg base 2 (mC K) "bases_with" (spX K (R_bw K)) := by
  obtain ⟨fd, F⟩ := T.def_ i_Module_bases_with rfl
  have sc : FnScope ["self", "others", "found", "other"] (["self", "others"] : List Str) (defScope s_Module_bases_with) := ⟨rfl, rfl, rfl, by decide +kernel, rfl, by decide +kernel, by decide +kernel⟩
  have scN := sc.nd
  refine ⟨_, T.Module_c, T.Module_m_bases_with, fnR_of (fnB (k := 1) F sc (fun vs H Q E h => ?_) (fun cd A outer s H vs Q E hr h => ?_)) (F.bindsN (fun _ _ _ _ _ _ us hl => match us, hl with | [_, _], _ => rfl))⟩
  · obtain ⟨xs, r, h1, ⟨n, m, B, B2, rfl, _⟩, k⟩ := h
    exact slAll_len h1
  · obtain ⟨xs, r, h1, ⟨n, m, B, B2, rfl, rfl⟩, k⟩ := h
    refine (?_ : RB _ H (rhoS ["self", "others", "found", "other"] [sMo K (mC K) n m B, sT1 K n m B2]) _ _) _ H (env_startS h1)
    have im0 : immRX K (rhoS ["self", "others", "found", "other"] [sMo K (mC K) n m B, sT1 K n m B2]) := immRX_S (immRX_cons immX_mo (immRX_cons immX_t1 immRX_nil))
    refine rb_setL 2 (ea_cons (ed_mor (ex_var 0 rfl) T.Module_c T.Module_n_r) ea_nil) (by simp) (fun H1 a ys e1 ha hl1 dvs => ?_) scN
    have im3 := (im0.set (i := 2) (x := .val (.ref a)) (.inl rfl)).set (i := 3) (x := sMo K (mC K) n m B2) immX_mo
    refine rb_for1 3 (W := fun H2 F2 ρ2 => ∃ o3 ys2, ρ2 = [some (sMo K (mC K) n m B), some (sT1 K n m B2), some (.val (.ref a)), o3] ∧ Keep (· = a) H2 F2 ∧ TI K H2 F2 ∧ F2 a = some (.lst ys2) ∧ DpAll K F2 ys2 [dM B, dM B2]) rfl PassesOwn.never (ex_var 1 rfl) mo_stb (fun H2 F2 ρ2 H3 e2 ⟨_, _, _, _, t, _⟩ e3 => t.1.trans (TK.of e3)) (fun H2 e2 => ?_) (fun H2 F2 ρ2 e2 ⟨o3, ys2, hρ, k2, t2, hl2, dvs2⟩ => ?_) scN
    · refine rb_skip (td_w (tw_or (td_not (td_val (ed_isC T.f_isinstance T.insC (T.glo j_Module rfl) (ex_var 3 rfl)))) fun hb => (tw_or1 (td_neD hr.units (ed_tup (ea_cons (ed_mow (ex_var 3 rfl) T.Module_c T.Module_n_w) (ea_cons (ed_mos (ex_var 3 rfl) T.Module_c T.Module_n_s) ea_nil)) (by first | decide | simp)) (ed_tup (ea_cons (ed_mow (ex_var 0 rfl) T.Module_c T.Module_n_w) (ea_cons (ed_mos (ex_var 0 rfl) T.Module_c T.Module_n_s) ea_nil)) (by first | decide | simp)) ?_ ?_)))) ?_ ?_
      · exact encV.shaped (by decide) [(n : Int), (m : Int)]
      · exact encV.shaped (by decide) [(n : Int), (m : Int)]
      · show (!true || !(PyData.eqv (dV [(n : Int), (m : Int)]) (dV [(n : Int), (m : Int)]))) = false
        rw [encV.dec]; simp
      refine rb_appendP (ev_var 2 rfl) (e2 _ _ hl1) (ed_mor (ex_var 3 rfl) T.Module_c T.Module_n_r) (by rw [dpA_len dvs]; simp) (imm_dM B2) im3 fun H3 v3 k3 t3 hl3 dv3 => rb_nil fun σ4 H4 E4 => ⟨H3, _, ⟨_, _, rfl, k3, t3, hl3, dpA_app (dpA_tk t3.1 [dM B] (by simp [immL, imm_dM]) (dpA_mono e2 dvs)) (.cons dv3 .nil)⟩, E4⟩
    · subst hρ
      refine rb_retX (ex_ed (ed_ev (ev_var 2 rfl) (.lst (SqL.of hl2) dvs2))) fun v H4 e4 dv => k v H4 ?_ dv
      have haH : H a = none := ha
      exact fun b o hb => e4 b o (k2 b o (e2 b o (e1 b o hb)) fun z => by rw [z, haH] at hb; cases hb)
abbrev R_plus (K : PySem.W.Frag) : RelX := fun xs r => ∃ (n m : Nat) (B B2 : List (List Int)), xs = [sMo K (mC K) n m B, sMo K (mC K) n m B2] ∧ MoC n m ∧ Bas n m B ∧ Bas n m B2 ∧ r = sMo K (mC K) n m (basF n m (B ++ B2))
/-- a star argument that is one module -/
theorem star1 {H : Hp} {vs : List V} {Q : VK} {E : XK} {R R' : RelX} {K : PySem.W.Frag} (hR : ∀ xs r, R xs r → ∃ n m B B2, xs = [sMo K (mC K) n m B, sMo K (mC K) n m B2] ∧ R' [sMo K (mC K) n m B, sT1 K n m B2] r) (h : spX K R vs H Q E) :
    ∃ ws rest, vs = ws ++ rest ∧ ws.length = (["self"] : List Str).length ∧ rest.length ≤ sizeLine ∧ ∀ p, H p = Option.none → spX K R' (ws ++ [V.ref p]) (upd H p (.tup rest)) Q E := by
  obtain ⟨xs, r, h1, h2, k⟩ := h
  obtain ⟨n, m, B, B2, rfl, h3⟩ := hR xs r h2
  cases h1 with
  | @cons v1 _ _ _ a1 h1 =>
  cases h1 with
  | @cons v2 _ _ _ a2 h1 =>
  cases h1
  refine ⟨[v1], [v2], rfl, rfl, by rw [sizeLine_eq]; simp, fun p hp => ?_⟩
  have e : Same H (upd H p (.tup [v2])) := Same.new hp
  exact ⟨_, r, .cons (a1.mono e) (.cons ((t1_stb mo_stb).ok ⟨p, v2, rfl, SqT.of upd_same, mo_stb _ _ _ a2.p e⟩) .nil), h3, fun v H' e' dv => k v H' (e.trans e') dv⟩
abbrev R_plus0 (K : PySem.W.Frag) : RelX := fun xs r => ∃ (n m : Nat) (B B2 : List (List Int)), xs = [sMo K (mC K) n m B, sT1 K n m B2] ∧ MoC n m ∧ Bas n m B ∧ Bas n m B2 ∧ r = sMo K (mC K) n m (basF n m (B ++ B2))
theorem met_plus (T : Top K mg) : MetR P w K mg base 11 (mC K) "plus" (spX K (R_plus K)) := by
  obtain ⟨fd, F⟩ := T.def_ i_Module_plus rfl
  have sc : FnScope ["self", "others", "rows", "row"] ((["self"] : List Str) ++ (["others"] : List Str)) (defScope s_Module_plus) := ⟨rfl, rfl, rfl, by decide +kernel, rfl, by decide +kernel, by decide +kernel⟩
  have scN := sc.nd
  refine ⟨_, T.Module_c, T.Module_m_plus, (fnS (k := 10) (sp := spX K (R_plus0 K)) F sc (fun kV doc pm an cdv ct => StX.bind_star1 (B := fun us => bindArgs (PySem.W.fnOf "plus" "Module.plus" d_Module_plus.params d_Module_plus.body d_Module_plus.scope .none kV doc pm an cdv ct) ⟨us, []⟩) (fun _ => by first | rfl | kernel_rfl) (fun _ _ _ => by first | rfl | kernel_rfl)) (fun cd A outer s H vs Q E hr h => ?_)).imp fun vs H Q E h => star1 (fun xs r ⟨n, m, B, B2, e, c⟩ => ⟨n, m, B, B2, e, n, m, B, B2, rfl, c⟩) h⟩
  obtain ⟨xs, r, h1, ⟨n, m, B, B2, rfl, hc, hB, hB2, rfl⟩, k⟩ := h
  have l1 := bas_len hB
  have l2 := bas_len hB2
  refine (?_ : RB _ H (rhoS ["self", "others", "rows", "row"] [sMo K (mC K) n m B, sT1 K n m B2]) _ _) _ H (env_startS h1)
  refine rb_retX (ex_meth (met_made T) hr (by decide) (ex_var 0 rfl) (eas_cons (d := dLM (B ++ B2)) (ed_eq (ed_lc2 (own := [("rows", 2), ("row", 3)]) (js := [2]) (js1 := [3]) (vs1 := [3]) rfl scN (it_lst (ed_ex (ex_meth (met_bases_with T) hr (by decide) (ex_var 0 rfl) (eas_consX (ex_var 1 rfl) eas_nil) ⟨n, m, B, B2, rfl, rfl⟩))) (blkOk_by (N := ["self", "others", "rows", "row"]) (sc := (defScope s_Module_plus)) (by decide +kernel)) (by decide) (fun _ _ _ _ _ => pg_name (i := 2) scN rfl (by first | exact Or.inl rfl | exact Or.inr rfl)) (by decide) (fun i hi => tg_name) (fun s H C cl fp i hi => (imx_tup (ed_var 2 rfl) ?_)) (fun _ _ _ _ _ => pg_name (i := 3) scN rfl (by first | exact Or.inl rfl | exact Or.inr rfl)) (by decide) (fun i hi k hk => tg_name) (fun s H C cl fp i hi k hk => (ed_var 3 rfl)) ?_ ?_ ?_) ?_) eas_nil) ⟨n, m, B, B ++ B2, dLM (B ++ B2), rfl, .inr rfl, ⟨hc, by rw [List.length_append]; have := hc.2.2; omega, fun v hv => (List.mem_append.mp hv).elim (hB.1 v) (hB2.1 v)⟩, rfl⟩) fun v H' e dv => k v H' e dv
  · intro d hd
    obtain ⟨r, _, rfl⟩ := List.mem_map.mp hd
    exact imm_dV r
  · exact fun i hi z x hx => match z, hx with
      | 0, hx => .inr ⟨by decide, hx⟩
      | 1, hx => .inr ⟨by decide, hx⟩
      | 2, hx => .inl (by cases hx; exact imm_dM _)
      | 3, hx => by cases hx
      | _ + 4, hx => by cases hx
  · exact fun _ _ _ _ => imm_dV _
  · simp; omega
  · simp [dLM]
abbrev R_common (K : PySem.W.Frag) : RelX := fun xs r => ∃ (n m : Nat) (B B2 : List (List Int)), xs = [sMo K (mC K) n m B, sMo K (mC K) n m B2] ∧ MoC n m ∧ Bas n m B ∧ Bas n m B2 ∧ r = sMo K (mC K) n m (comB n m [B, B2])
abbrev R_common0 (K : PySem.W.Frag) : RelX := fun xs r => ∃ (n m : Nat) (B B2 : List (List Int)), xs = [sMo K (mC K) n m B, sT1 K n m B2] ∧ MoC n m ∧ Bas n m B ∧ Bas n m B2 ∧ r = sMo K (mC K) n m (comB n m [B, B2])
theorem met_common (T : Top K mg) : MetR P w K mg base 11 (mC K) "common" (spX K (R_common K)) := by
  obtain ⟨fd, F⟩ := T.def_ i_Module_common rfl
  have sc : FnScope ["self", "others"] ((["self"] : List Str) ++ (["others"] : List Str)) (defScope s_Module_common) := ⟨rfl, rfl, rfl, by decide +kernel, rfl, by decide +kernel, by decide +kernel⟩
  have scN := sc.nd
  refine ⟨_, T.Module_c, T.Module_m_common, (fnS (k := 10) (sp := spX K (R_common0 K)) F sc (fun kV doc pm an cdv ct => StX.bind_star1 (B := fun us => bindArgs (PySem.W.fnOf "common" "Module.common" d_Module_common.params d_Module_common.body d_Module_common.scope .none kV doc pm an cdv ct) ⟨us, []⟩) (fun _ => by first | rfl | kernel_rfl) (fun _ _ _ => by first | rfl | kernel_rfl)) (fun cd A outer s H vs Q E hr h => ?_)).imp fun vs H Q E h => star1 (fun xs r ⟨n, m, B, B2, e, c⟩ => ⟨n, m, B, B2, e, n, m, B, B2, rfl, c⟩) h⟩
  obtain ⟨xs, r, h1, ⟨n, m, B, B2, rfl, hc, hB, hB2, rfl⟩, k⟩ := h
  have hA : Bas n m (comB n m [B, B2]) := (annB_ok hc.1.1 (fun v hv => by
    obtain ⟨A, hA1, hA2⟩ := List.mem_flatten.mp hv
    obtain ⟨D, hD, rfl⟩ := List.mem_map.mp hA1
    have hb : Bas n m D := by simp at hD; rcases hD with rfl | rfl <;> assumption
    exact (annB_ok hc.1.1 hb.1).1.1 v hA2)).1
  have l0 := bas_len hA
  refine (?_ : RB _ H (rhoS ["self", "others"] [sMo K (mC K) n m B, sT1 K n m B2]) _ _) _ H (env_startS h1)
  refine rb_retX (ex_eq (ex_meth (met_made T) hr (by decide) (ex_var 0 rfl) (eas_cons (d := dM (comB n m [B, B2])) (ed_call (cal_common_by T) hr (by decide) (ea_cons (ed_mow (ex_var 0 rfl) T.Module_c T.Module_n_w) (ea_cons (ed_mos (ex_var 0 rfl) T.Module_c T.Module_n_s) (ea_cons (ed_ex (ex_meth (met_bases_with T) hr (by decide) (ex_var 0 rfl) (eas_consX (ex_var 1 rfl) eas_nil) ⟨n, m, B, B2, rfl, rfl⟩)) ea_nil))) ⟨_, _, _, [B, B2], rfl, ?_, ?_, ?_, rfl⟩) eas_nil) ⟨n, m, B, comB n m [B, B2], dM (comB n m [B, B2]), rfl, .inl rfl, ⟨hc, by have := hc.2.2; omega, hA.1⟩, rfl⟩) (by rw [basF_self hA]; rfl)) fun v H' e dv => k v H' e dv
  · exact .inr rfl
  · exact ⟨hc.1, hc.2.2, by simp⟩
  · intro D hD
    simp at hD
    rcases hD with rfl | rfl <;> assumption
end
end K86
end
section
namespace K86
open PySem PySem.Spec PyProof.Rows L2 DL WM
section
variable {P : Program} {w : World} {K : PySem.W.Frag} {mg : Str → Option Value} {base : Heap}
abbrev R_eq (K : PySem.W.Frag) : RelX := fun xs r => ∃ (n m : Nat) (B B2 : List (List Int)), xs = [sMo K (mC K) n m B, sMo K (mC K) n m B2] ∧ r = .dat (.bool (decide (B = B2)))
theorem fn_eq (T : Top K mg) : ∃ fd ps, FnOk P w K mg base CX0 1 (He.ma K (mC K) "__eq__") fd ps (spX K (R_eq K)) ∧ Binds K fd ps [] := by
  obtain ⟨fd, F⟩ := T.def_ i_Module___eq__ rfl
  have sc : FnScope ["self", "value", "mine"] ["self", "value"] (defScope s_Module___eq__) := ⟨rfl, rfl, rfl, by decide +kernel, rfl, by decide +kernel, by decide +kernel⟩
  have scN := sc.nd
  refine ⟨fd, _, fnB (k := 0) F sc (fun vs H Q E h => ?_) (fun cd A outer s H vs Q E hr h => ?_), F.bindsN (fun _ _ _ _ _ _ us hl => match us, hl with | [_, _], _ => rfl)⟩
  · obtain ⟨xs, r, h1, ⟨n, m, B, B2, rfl, rfl⟩, k⟩ := h
    exact slAll_len h1
  · obtain ⟨xs, r, h1, ⟨n, m, B, B2, rfl, rfl⟩, k⟩ := h
    refine (?_ : RB _ H (rhoS ["self", "value", "mine"] [sMo K (mC K) n m B, sMo K (mC K) n m B2]) _ _) _ H (env_startS h1)
    refine rb_skip (td_not (td_val (ed_isC T.f_isinstance T.insC (T.glo j_Module rfl) (ex_var 1 rfl)))) rfl ?_
    have sh : ∀ B : List (List Int), SeqAt.shaped (.tuple [.int (n : Int), .int (m : Int), dM B]) = true := fun B => by
      have h1 := encM.lay B
      have h2 := encM.dep B
      generalize dM B = d at *
      simp [SeqAt.shaped, PyData.canLayAll0, PyData.canLay0, PyData.depthAll, PyData.depth, h1]
      omega
    have ev : PyData.eqv (.tuple [.int (n : Int), .int (m : Int), dM B]) (.tuple [.int (n : Int), .int (m : Int), dM B2]) = decide (B = B2) := by
      have := encM.dec B B2
      generalize dM B = d1 at *
      generalize dM B2 = d2 at *
      simp [PyData.eqv, PyData.eqvAll, this]
    refine rb_set 2 (d := .tuple [.int (n : Int), .int (m : Int), dM B]) (ed_tup (ea_cons (ed_mow (ex_var 0 rfl) T.Module_c T.Module_n_w) (ea_cons (ed_mos (ex_var 0 rfl) T.Module_c T.Module_n_s) (ea_cons (ed_mor (ex_var 0 rfl) T.Module_c T.Module_n_r) ea_nil))) (by first | decide | simp)) ?_ scN
    refine rb_ret (ed_eq (ed_eqD hr.units (ed_var 2 rfl) (ed_tup (ea_cons (ed_mow (ex_var 1 rfl) T.Module_c T.Module_n_w) (ea_cons (ed_mos (ex_var 1 rfl) T.Module_c T.Module_n_s) (ea_cons (ed_mor (ex_var 1 rfl) T.Module_c T.Module_n_r) ea_nil))) (by first | decide | simp)) ?_ ?_) ?_) fun v H' e dv => k v H' e dv
    · exact sh B
    · exact sh B2
    · rw [ev]
theorem cntB_P {n m : Nat} : ∀ {B : List (List Int)} (f : Int), (∀ r ∈ B, IsVec n m r ∧ ∃ c, Lead n m r c) → B.foldl (fun f r => f * (2 ^ n / ix r (leadc r))) f = cntP n B f
  | [], _, _ => rfl
  | r :: rs, f, h => by
    obtain ⟨hv, c, hl⟩ := h r List.mem_cons_self
    rw [List.foldl_cons, cntB_P _ (fun s hs => h s (List.mem_cons_of_mem _ hs)), lead_c hl hv.1]
    show _ = cntP n rs (f * (2 ^ n / pvt r))
    rw [lead_pvt hl]
theorem bas_leads {n m : Nat} {B : List (List Int)} (h : Bas n m B) : ∀ r ∈ B, IsVec n m r ∧ ∃ c, Lead n m r c := fun r hr => ⟨h.1 r hr, by obtain ⟨d, _, q⟩ := h.2.lead r hr; exact ⟨d, q⟩⟩
theorem cntB_eq {n m : Nat} {B : List (List Int)} (h : Bas n m B) : cntB n B = cntP n B 1 := cntB_P 1 (bas_leads h)
def spMem (K : PySem.W.Frag) : L2.SpG := fun vs H cont _ => ∃ (n m : Nat) (B : List (List Int)), SlAll K H vs [sMo K (mC K) n m B] ∧ MoC n m ∧ Bas n m B ∧ cntP n B 1 ≤ 1000 ∧ ∀ out H', Same H H' → DpAll K H' out ((sortV (memF n m B)).map fun r => dV r) → cont out H'
theorem fold_vec {n m : Nat} : ∀ {B F : List (List Int)}, (∀ r ∈ B, IsVec n m r) → (∀ v ∈ F, IsVec n m v) → ∀ v ∈ B.foldl (wmF n) F, IsVec n m v
  | [], _, _, hF => hF
  | r :: rs, F, hB, hF => fold_vec (B := rs) (F := wmF n F r) (fun s hs => hB s (List.mem_cons_of_mem _ hs)) (wm_vec (hB r List.mem_cons_self).1 hF)
theorem q_pos {n m c : Nat} {r : List Int} (hl : Lead n m r c) : 1 ≤ ((2 : Int) ^ n / pvt r).toNat := by
  obtain ⟨k, _, _, e⟩ := lead_count hl
  rw [e]
  have := pow_pos2 (n - k)
  omega
theorem fold_len {n m : Nat} : ∀ {B F : List (List Int)}, (∀ r ∈ B, IsVec n m r ∧ ∃ c, Lead n m r c) → F.length ≤ (B.foldl (wmF n) F).length
  | [], _, _ => Nat.le_refl _
  | r :: rs, F, hB => by
    obtain ⟨_, c, hl⟩ := hB r List.mem_cons_self
    have h1 := fold_len (B := rs) (F := wmF n F r) (fun s hs => hB s (List.mem_cons_of_mem _ hs))
    rw [wm_len] at h1
    have h2 : F.length * 1 ≤ F.length * ((2 : Int) ^ n / pvt r).toNat := Nat.mul_le_mul_left _ (q_pos hl)
    rw [List.foldl_cons]
    omega
theorem pre_len {n m i : Nat} {B : List (List Int)} (hB : Bas n m B) : ((B.take i).foldl (wmF n) [List.replicate m 0]).length ≤ (memF n m B).length := by
  have h := fold_len (B := B.drop i) (F := (B.take i).foldl (wmF n) [List.replicate m 0]) fun r hr => bas_leads hB r (List.mem_of_mem_drop hr)
  rw [← List.foldl_append, List.take_append_drop] at h
  exact h
theorem gfn_members (T : Top K mg) : ∃ fd ps, GFn P w K mg base 5 (He.ma K (mC K) "members") fd ps (spMem K) ∧ Binds K fd ps [] := by
  obtain ⟨fd, F⟩ := T.def_ i_Module_members rfl
  have bd := F.bindsN (ps := ["self"]) (fun _ _ _ _ _ _ us hl => match us, hl with | [_], _ => rfl)
  have kp := F.kp
  obtain ⟨oc, od, dV0, kV, doc, pm, an, cdv, ct, osl, rfl, lk, hcd, hD, _⟩ := F.ex
  have sc : GScope ["self", "found", "row"] ["self"] (defScope s_Module_members) := ⟨rfl, rfl, rfl, by decide +kernel, rfl, by decide +kernel, by decide +kernel⟩
  have scN := sc.nd
  obtain ⟨tm, hmost⟩ := T.most
  refine ⟨_, _, gfn_of (k := 4) lk hcd sc (fun vs H Q E h => ?_) (fun A outer s H vs Q E pn hr h => ?_), bd⟩
  · obtain ⟨n, m, B, h1, _⟩ := h
    exact slAll_len h1
  · obtain ⟨n, m, B, h1, hc, hB, hcnt, k⟩ := h
    refine ⟨_, gss_cons (gs_ps ps_w) (gss_cons (gs_ps ps_w) (gss_cons (gs_ps ps_w) (gss_cons (gs_yieldFrom (yf_lst pe_w) hr.hd) gss_nil))), ?_⟩
    have E0 := env_startS (N := ["self", "found", "row"]) h1
    refine ws_skip (td_gt (ed_call (cal_count_by T) hr (by decide) (ea_cons (ed_mow (ex_var 0 rfl) T.Module_c T.Module_n_w) (ea_cons (ed_mor (ex_var 0 rfl) T.Module_c T.Module_n_r) ea_nil)) ⟨_, m, _, rfl, ?_, ?_, rfl⟩) (ed_mocon (ex_var 0 rfl) T.Module_c hmost)) ?_ E0 fun H1 e1 => ?_
    · exact ⟨by have := hc.1.2; omega, by have := hc.2.2; omega, by have := bas_len hB; have := hc.2.2; omega⟩
    · exact bas_leads hB
    · rw [cntB_eq hB]
      exact decide_eq_false (by omega)
    have E1 := E0.mono e1
    refine ws_set 1 (r := .dat (dLM [List.replicate m 0])) (ex_ed (ed_lst (ea_cons (ed_rep (ed_tup (ea_cons ed_int ea_nil) (by first | decide | simp)) (ed_mos (ex_var 0 rfl) T.Module_c T.Module_n_s) ?_) ea_nil) (by first | decide | simp))) E1 (fun v2 H2 e2 E2 => ?_) scN
    · exact ⟨hc.2.1, by have := hc.2.2; omega⟩
    refine sd_for (P := fun _ => False) (Kn := fun ρ' => ∃ o, ρ' = [some (sMo K (mC K) n m B), some (.dat (dLM (memF n m B))), o]) (items := B) (enc := fun v => dV v) (en := fun r ρ => ρ.set 2 (some (.dat (dV r)))) (js := [2])
      (Pv := fun i ρ' => ∃ o, ρ' = [some (sMo K (mC K) n m B), some (.dat (dLM ((B.take i).foldl (wmF n) [List.replicate m 0]))), o]) rfl owns_gcx (it_tup (ed_mor (ex_var 0 rfl) T.Module_c T.Module_n_r)) (pg_name (i := 2) scN rfl (by first | exact Or.inl rfl | exact Or.inr rfl)) ⟨none, rfl⟩ (fun i hi ρ' => tg_name) (fun i r ρ' hi hρ => ?_) (fun ρ' hρ => ?_) (by intro _; rfl) _ _ _ E2 (fun d v H' z => z.elim) (fun ρ' σ' H' hK e3 E3 => ?_)
    · obtain ⟨o, rfl⟩ := hρ
      have hpl := pre_len (i := i) hB
      have hpl1 := pre_len (i := i + 1) hB
      have tk1 : B.take (i + 1) = B.take i ++ [r] := by rw [List.take_succ, hi]; rfl
      have hrB := List.mem_of_getElem? hi
      rw [tk1, List.foldl_append, List.foldl_cons, List.foldl_nil, wm_len] at hpl1
      have hml := (memF_ok hB).2.2.2
      refine bd_set 1 (d := dLM (wmF n ((B.take i).foldl (wmF n) [List.replicate m 0]) r)) (ed_call (cal_with_multiples T) hr (by decide) (ea_cons (ed_mow (ex_var 0 rfl) T.Module_c T.Module_n_w) (ea_cons (ed_var 1 rfl) (ea_cons (ed_var 2 rfl) ea_nil))) ⟨_, m, _, _, rfl, ?_, ?_, ?_, rfl⟩) (bd_nil ⟨_, by rw [tk1, List.foldl_append]; rfl⟩) scN
      · exact ⟨hc.1.2, by have := hc.2.2; omega, by omega, by omega⟩
      · exact fold_vec (fun s hs => hB.1 s (List.mem_of_mem_take hs)) fun v hv => by obtain rfl := List.mem_singleton.mp hv; exact isVec_zero
      · exact bas_leads hB r hrB
    · obtain ⟨o, rfl⟩ := hρ
      exact ⟨o, by rw [List.take_length]; rfl⟩
    · obtain ⟨o, rfl⟩ := hK
      have hml := (memF_ok hB).2.2.2
      refine we_sortedV T.f_sorted hr.units (L := memF n m B) (ed_var 1 rfl) (fun r hr' z => ?_) (by omega) E3 (fun p xs H' e4 hp dv => ⟨p, xs, rfl, hp, ?_, ?_⟩)
      · have := ((memF_ok hB).1 r hr').1
        rw [z] at this
        have := hc.2.1
        simp at *
        omega
      · have := dpA_len dv
        rw [List.length_map, (sortV_perm _).length_eq] at this
        rw [sizeLine_eq]
        simp
        omega
      · exact k xs H' (((e1.trans e2).trans e3).trans e4) dv
end
end K86
end
section
namespace K86
open PySem PySem.Spec PyProof.Rows L2 DL WM
section
variable {P : Program} {w : World} {K : PySem.W.Frag} {mg : Str → Option Value} {base : Heap}
/-! ### the draws -/
def sp_stream (K : PySem.W.Frag) : Sp := fun vs H Q _ => ∃ (sa : Addr) (ns : List Int) (k : Nat), vs = [.ref sa, .int (k : Int)] ∧ SqL K H sa (ns.map V.int) ∧ k ≤ 1000 ∧ ∀ a H', Same H H' → H a = none → Str3 H' a 0 → Q (.ref a) H'
theorem nab {i : Int} {n : Nat} (h0 : -(2 : Int) ^ n < i) (h1 : i < 2 ^ n) : i.natAbs < 2 ^ n := by
  have e : ((2 ^ n : Nat) : Int) = (2 : Int) ^ n := by simp
  omega
theorem cal_law_stream (T : Top K mg) : Cal P w K mg base 1 "_law_stream" (sp_stream K) := by
  obtain ⟨fd, F⟩ := T.def_ i__law_stream rfl
  have sc : FnScope ["script", "at", "cell", "great", "mixed"] ["script", "at"] (defScope s__law_stream) := ⟨rfl, rfl, rfl, by decide +kernel, rfl, by decide +kernel, by decide +kernel⟩
  have scN := sc.nd
  refine ⟨_, fd, _, fnB (k := 0) F sc (fun vs H Q E h => ?_) (fun cd A outer s H vs Q E hr h => ?_), T.glo j__law_stream rfl, F.kp, F.bindsN (fun _ _ _ _ _ _ us hl => match us, hl with | [_, _], _ => rfl)⟩
  · obtain ⟨sa, ns, k, rfl, _⟩ := h
    rfl
  · obtain ⟨sa, ns, k, rfl, hs, hk, K1⟩ := h
    have hsd : Dp K H (.ref sa) (.list (ns.map .int)) := .lst hs (ints_dpA ns)
    refine (?_ : RB _ H (rhoS ["script", "at", "cell", "great", "mixed"] [.val (.ref sa), .dat (.int (k : Nat))]) _ _) _ H (env_startS (.cons rfl (.cons (.int _) .nil)))
    refine rb_set 2 (d := .int (11 * (k : Int) + 4)) (ed_add (ed_mul ed_int (ed_var 1 rfl) ?_) ed_int) ?_ scN
    · exact mulx_ok (a := 4) (b := 20) (by decide) (nab (by omega) (by omega)) (by decide)
    have main : ∀ cell : Int, RB (cxD P w K mg base ["script", "at", "cell", "great", "mixed"] d__law_stream.qual d__law_stream.scope (d__law_stream.at_ K) cd A outer s H E) H [some (.val (.ref sa)), some (.dat (.int (k : Nat))), some (.dat (.int cell)), none, none] (d__law_stream.body.drop 2) { nx := fun _ H' => Q .non H', rt := Q } := fun cell => by
      have hg0 : 0 ≤ (if cell < 0 then -cell else cell) % ((10 : Int) ^ 60) ^ 12 := Int.emod_nonneg _ (by decide +kernel)
      refine rb_set 3 (ed_mod (ed_abs T.f_abs (ed_var 2 rfl)) (ed_powW (n := 12) (ed_pow (n := 60) ed_int ed_int (by decide) (by decide)) ed_int (by decide +kernel)) ?_) ?_ scN
      · decide +kernel
      generalize (if cell < 0 then -cell else cell) % ((10 : Int) ^ 60) ^ 12 = great at *
      have hq0 := Int.emod_nonneg great (show (2147483587 : Int) ≠ 0 by decide)
      have hq1 := Int.emod_lt_of_pos great (show (0 : Int) < 2147483587 by decide)
      refine rb_set 4 (ed_mod (ed_add (ed_add (ed_add (ed_mul (ed_mod (ed_var 3 rfl) ed_int ?_) ed_int ?_) (ed_mul ed_int (ed_var 1 rfl) ?_)) (ed_mul ed_int (ed_intB T.f_int (ed_lt (ed_var 2 rfl) ed_int)) ?_)) ed_int) ed_int ?_) ?_ scN
      · decide
      · exact mulx_ok (a := 40) (b := 20) (nab (by omega) (by omega)) (by decide) (by decide)
      · exact mulx_ok (a := 20) (b := 20) (by decide) (nab (by omega) (by omega)) (by decide)
      · exact mulx_ok (a := 20) (b := 20) (by decide) (by split <;> decide) (by decide)
      · decide
      have hm0 := Int.emod_nonneg (great % 2147483587 * 69621 + 1009 * (k : Int) + 3 * (if decide (cell < 0) = true then 1 else 0) + 17) (show (2147483647 : Int) ≠ 0 by decide)
      have hm1 := Int.emod_lt_of_pos (great % 2147483587 * 69621 + 1009 * (k : Int) + 3 * (if decide (cell < 0) = true then 1 else 0) + 17) (show (0 : Int) < 2147483647 by decide)
      generalize (great % 2147483587 * 69621 + 1009 * (k : Int) + 3 * (if decide (cell < 0) = true then 1 else 0) + 17) % 2147483647 = mixed at *
      refine rb_retW fun σ4 H4 E4 => ofE (pe_lst pa_w) ?_
      refine ((ea_cons (ed_max2 T.f_max rfl ed_int (ed_sub (ed_var 3 rfl) (ed_pow (n := 18) ed_int ed_int (by decide) (by decide)))) (ea_cons (ed_var 4 rfl) (ea_cons ed_int ea_nil))) : EA _ H _ _ _) σ4 H4 _ E4 fun vs H5 e5 dvs => ⟨by rw [dpA_len dvs]; simp [sizeLine_eq], fun p hp => ?_⟩
      have E5 := E4.mono e5
      have e6 : Same H5 (upd H5 p (.lst vs)) := Same.new hp
      have hpH : H p = none := by
        cases z : H p with
        | none => rfl
        | some o => have := E5.2.2 _ _ z; rw [hp] at this; cases this
      refine K1 p _ (E5.2.2.trans e6) hpH ?_
      cases dvs with
      | cons h1 h2 =>
      cases h2 with
      | cons h2 h3 =>
      cases h3 with
      | cons h3 h4 =>
      cases h4
      rw [dp_int h1, dp_int h2, dp_int h3]
      exact ⟨_, _, _, upd_same, ⟨hm0, by omega⟩, by decide, by decide⟩
    refine rb_when (td_lt (ed_var 1 rfl) (ed_lenL T.f_len (ed_ev (ev_var 0 rfl) hsd))) (fun ht => ?_) (fun ht => main _)
    have hlt : k < ns.length := by
      have := of_decide_eq_true ht
      rw [List.length_map] at this
      omega
    obtain ⟨i, hi⟩ : ∃ i, ns[k]? = some i := ⟨_, List.getElem?_eq_getElem hlt⟩
    refine rb_set 2 (d := .int i) (ed_ixL (ed_ev (ev_var 0 rfl) hsd) (ed_var 1 rfl) ?_) (rb_nil fun σ4 H4 E4 => main i σ4 H4 E4) scN
    · rw [List.getElem?_map, hi]; rfl
abbrev R_draw : RelF := fun ds P => ∃ t : Int, ds = [.int t] ∧ 0 < t ∧ t < 2 ^ 8000 ∧ P = fun d => ∃ r : Int, d = .int r ∧ 0 ≤ r ∧ r < t
theorem cal_law_draw (T : Top K mg) : Cal P w K mg base 1 "_law_draw" (spSt K 1000000 1 R_draw) := by
  obtain ⟨fd, F⟩ := T.def_ i__law_draw rfl
  have sc : FnScope ["stream", "total", "found", "one", "two"] ["stream", "total"] (defScope s__law_draw) := ⟨rfl, rfl, rfl, by decide +kernel, rfl, by decide +kernel, by decide +kernel⟩
  have scN := sc.nd
  refine ⟨_, fd, _, fnB (k := 0) F sc (fun vs H Q E h => ?_) (fun cd A outer s H vs Q E hr h => ?_), T.glo j__law_draw rfl, F.kp, F.bindsN (fun _ _ _ _ _ _ us hl => match us, hl with | [_, _], _ => rfl)⟩
  · obtain ⟨a, vs', ds, P', N, rfl, h1, ⟨t, rfl, _⟩, _⟩ := h
    rw [List.length_cons, dpA_len h1]; rfl
  · obtain ⟨a, vs', ds, P', N, rfl, h1, ⟨t, rfl, ht, ht2, rfl⟩, ⟨s0, s1, s2, ha, ⟨b1, b2⟩, b3, b4⟩, hN, K1⟩ := h
    have im0 : immRX K (rhoS ["stream", "total", "found", "one", "two"] [.val (.ref a), .dat (.int t)]) := immRX_of (immR_S (immR_cons rfl (immR_cons rfl immR_nil)))
    refine (?_ : RB _ H (rhoS ["stream", "total", "found", "one", "two"] [.val (.ref a), .dat (.int t)]) _ _) _ H (env_startS (.cons rfl (slAll_ds h1)))
    have hsd : ∀ {H : Hp} {s0 s1 s2 : Int}, H a = some (.lst [.int s0, .int s1, .int s2]) → Dp K H (.ref a) (.list [.int s0, .int s1, .int s2]) := fun h => .lst (SqL.of h) (.cons (.int _) (.cons (.int _) (.cons (.int _) .nil)))
    refine rb_when (td_gt (ed_ixL (ed_ev (ev_var 0 rfl) (hsd ha)) (j := 0) ed_int rfl) ed_int) (fun hs => ?_) (fun hs => ?_)
    · have hs0 : 0 < s0 := by simpa using hs
      refine rb_set 2 (d := .int (s0 % t)) (ed_mod (ed_ixL (ed_ev (ev_var 0 rfl) (hsd ha)) (j := 0) ed_int rfl) (ed_var 1 rfl) ?_) ?_ scN
      · exact ht
      have im2 := im0.set (i := 2) (x := .dat (.int (s0 % t))) (.inl rfl)
      refine rb_store (ev_var 0 rfl) ha ed_int (z := 0) (by rfl) (d := .int (s0 / t)) (ed_div (ed_ixL (ed_ev (ev_var 0 rfl) (hsd ha)) (j := 0) ed_int rfl) (ed_var 1 rfl) ?_) rfl im2 (fun H1 v k1 t1 h1 dv => ?_)
      · exact wide_div (b := 8000) ht (nab (by omega) ht2) (by decide) (by decide)
      cases dp_int dv
      refine rb_ret (ed_var 2 rfl) fun v2 H2 e2 dv2 => K1 _ v2 H2 ⟨s0 % t, rfl, Int.emod_nonneg _ (by omega), Int.emod_lt_of_pos _ ht⟩ (k1.trans (Keep.of e2)) (Str3.same ⟨_, _, _, h1, ⟨b1, b2⟩, b3, by omega⟩ e2) dv2
    · refine rb_store (ev_var 0 rfl) ha ed_int (z := 2) (by rfl) (d := .int (s2 + 1)) (ed_add (ed_ixL (ed_ev (ev_var 0 rfl) (hsd ha)) (j := 2) ed_int rfl) ed_int) rfl im0 (fun H1 v k1 t1 h1 dv => ?_)
      cases dp_int dv
      have p1 : (0 : Int) < 2305843009213693951 := by decide
      refine rb_set 3 (ed_mod (ed_add (ed_ixL (ed_ev (ev_var 0 rfl) (hsd h1)) (j := 1) ed_int rfl) (ed_mul ed_int (ed_ixL (ed_ev (ev_var 0 rfl) (hsd h1)) (j := 2) ed_int rfl) ?_)) ed_int ?_) ?_ scN
      · exact mulx_ok (a := 40) (b := 40) (by decide) (nab (by omega) (by omega)) (by decide)
      · decide
      have o0 := Int.emod_nonneg (s1 + 1000033 * (s2 + 1)) (show (2305843009213693951 : Int) ≠ 0 by decide)
      have o1 := Int.emod_lt_of_pos (s1 + 1000033 * (s2 + 1)) p1
      generalize (s1 + 1000033 * (s2 + 1)) % 2305843009213693951 = one at *
      have w0 := Int.emod_nonneg (one * one) (show (2305843009213693921 : Int) ≠ 0 by decide)
      have w1 := Int.emod_lt_of_pos (one * one) (show (0 : Int) < 2305843009213693921 by decide)
      refine rb_set 4 (ed_mod (ed_add (ed_mul (ed_mod (ed_mul (ed_var 3 rfl) (ed_var 3 rfl) ?_) ed_int ?_) (ed_var 3 rfl) ?_) (ed_mul ed_int (ed_ixL (ed_ev (ev_var 0 rfl) (hsd h1)) (j := 2) ed_int rfl) ?_)) ed_int ?_) ?_ scN
      · exact mulx_ok (a := 63) (b := 63) (nab (by omega) (by omega)) (nab (by omega) (by omega)) (by decide)
      · decide
      · exact mulx_ok (a := 63) (b := 63) (nab (by omega) (by omega)) (nab (by omega) (by omega)) (by decide)
      · exact mulx_ok (a := 40) (b := 40) (by decide) (nab (by omega) (by omega)) (by decide)
      · decide
      refine rb_ret (ed_mod (ed_div (ed_var 4 rfl) ed_int ?_) (ed_var 1 rfl) ?_) fun v2 H2 e2 dv2 => K1 _ v2 H2 ⟨_, rfl, Int.emod_nonneg _ (by omega), Int.emod_lt_of_pos _ ht⟩ (k1.trans (Keep.of e2)) (Str3.same ⟨_, _, _, h1, ⟨b1, b2⟩, by omega, by omega⟩ e2) dv2
      · exact wide_div (b := 20) (by decide) (by decide) (by decide) (by decide)
      · exact ht
end
end K86
end
section
namespace K86
open PySem PySem.Spec PyProof.Rows L2 DL WM
section
variable {P : Program} {w : World} {K : PySem.W.Frag} {mg : Str → Option Value} {base : Heap}
theorem rs_nil {X : Cx} {F : Hp} {a : Addr} {ρ : Rho} {N : Nat} {D : Ends} (h : ∀ σ H, ES X.K F a N H σ ρ → D.nx σ H) : RS X F a ρ N [] D := fun σ H E => wb_nil (h σ H E)
theorem imE {i : Int} : ∀ d, d = PyData.int i → imm d = true := fun d h => by subst h; rfl
theorem imI {Pp : Int → Prop} : ∀ d, (∃ r : Int, d = PyData.int r ∧ Pp r) → imm d = true := fun d ⟨r, h, _⟩ => by subst h; rfl
theorem imV {Pp : List Int → Prop} : ∀ d, (∃ v, d = dV v ∧ Pp v) → imm d = true := fun d ⟨v, h, _⟩ => by subst h; exact imm_dV v
theorem pow16 {n : Nat} (h : n ≤ 16) : (2 : Int) ^ n ≤ 65536 := by
  have : 2 ^ n ≤ 2 ^ 16 := Nat.pow_le_pow_right (by decide) h
  have h2 : ((2 ^ n : Nat) : Int) ≤ ((2 ^ 16 : Nat) : Int) := by exact_mod_cast this
  simpa using h2
abbrev R_row : RelF := fun ds P => ∃ n m : Nat, ds = [.int (n : Int), .int (m : Int)] ∧ ((1 ≤ n ∧ n ≤ 16) ∧ m ≤ 10) ∧ P = fun d => ∃ v, d = dV v ∧ IsVec n m v
theorem cal_law_row (T : Top K mg) : Cal P w K mg base 2 "_law_row" (spSt K 900000 100 R_row) := by
  obtain ⟨fd, F⟩ := T.def_ i__law_row rfl
  have sc : FnScope ["stream", "width", "size", "some", "top", "at"] ["stream", "width", "size"] (defScope s__law_row) := ⟨rfl, rfl, rfl, by decide +kernel, rfl, by decide +kernel, by decide +kernel⟩
  have scN := sc.nd
  refine ⟨_, fd, _, fnB (k := 1) F sc (fun vs H Q E h => ?_) (fun cd A outer s H vs Q E hr h => ?_), T.glo j__law_row rfl, F.kp, F.bindsN (fun _ _ _ _ _ _ us hl => match us, hl with | [_, _, _], _ => rfl)⟩
  · obtain ⟨a, vs', ds, P', N, rfl, h1, ⟨n, m, rfl, _⟩, _⟩ := h
    rw [List.length_cons, dpA_len h1]; rfl
  · obtain ⟨a, vs', ds, P', N, rfl, h1, ⟨n, m, rfl, ⟨⟨c1, c2⟩, c3⟩, rfl⟩, hst, hN, K1⟩ := h
    have n16 := pow16 c2
    have n1 : (2 : Int) ≤ 2 ^ n := by
      have : 2 ^ 1 ≤ 2 ^ n := Nat.pow_le_pow_right (by decide) c1
      exact_mod_cast this
    have im0 : immRX K (rhoS ["stream", "width", "size", "some", "top", "at"] [.val (.ref a), .dat (.int (n : Nat)), .dat (.int (m : Nat))]) := immRX_of (immR_S (immR_cons rfl (immR_cons rfl (immR_cons rfl immR_nil))))
    refine (?_ : RB _ H (rhoS ["stream", "width", "size", "some", "top", "at"] [.val (.ref a), .dat (.int (n : Nat)), .dat (.int (m : Nat))]) _ _) _ H (env_startS (.cons rfl (slAll_ds h1)))
    refine rb_rs hst im0 ?_
    refine rs_parL 3 4 (se_ed (ed_shl1 (ed_var 1 rfl) ?_)) imE (fun F1 l d2 hd2 s1 hl0 hl1 ha1 => ?_) rfl scN
    · omega
    subst hd2
    refine fun σ2 H2 E2 => wb_cons (ws_forR 5 (((ea_cons (ed_var 2 rfl) ea_nil) : EA _ F1 _ _ _) σ2 H2 _ E2.env fun vs H3 e3 dvs => ?_) T.f_range rfl PassesOwn.never scN)
    obtain ⟨v, rfl, dv⟩ := dpA1 dvs
    cases dp_int dv
    refine ⟨m, rfl, by omega, fun i σ4 H4 => ∃ (F2 : Hp) (ys : List V) (vl : List Int) (o5 : Option Slot), ES K F2 a (N + 2 * i) H4 σ4 [some (.val (.ref a)), some (.dat (.int (n : Nat))), some (.dat (.int (m : Nat))), some (.val (.ref l)), some (.dat (.int (2 ^ n))), o5] ∧ F2 l = some (.lst ys) ∧ DpAll K F2 ys (vl.map .int) ∧ vl.length = i ∧ (∀ x ∈ vl, 0 ≤ x ∧ x < (2 : Int) ^ n) ∧ Keep (· = l) F1 F2, ?_, ?_, ?_⟩
    · exact ⟨F1, [], [], none, E2.same e3, hl1, .nil, rfl, (fun _ h => nomatch h), Keep.of (Same.refl _)⟩
    · rintro i σ4 H4 hi ⟨F2, ys, vl, o5, E4, hl4, dvl, hvl, hx, kF⟩
      refine (rs_append (P := fun d => ∃ x : Int, d = .int x ∧ 0 ≤ x ∧ x < (2 : Int) ^ n) (N' := N + 2 * i + 2) 3 rfl hl4 ?_ ?_ imI (fun F3 d v hp k3 t3 hl3 dv3 ha3 => rs_nil fun σ5 H5 E5 => ?_) : RS _ F2 a _ _ _ _) _ H4 (E4.set (i := 5) (x := .dat (.int (i : Nat))) (.int _) (.inl rfl))
      · refine se_imp (se_ixL (sea_cons (se_ed ed_int) (sea_cons (se_ed ed_int) (sea_cons (se_ed ed_int) (sea_cons (se_ed ed_int) (sea_cons (se_ed (ed_mod ed_int (ed_var 4 rfl) ?_)) (sea_cons (se_ed (ed_sub (ed_var 4 rfl) ed_int)) (sea_cons (se_ed (ed_div (ed_var 4 rfl) ed_int ?_)) (sea_cons (se_call 0 (cal_law_draw T) hr (by decide) rfl (ea_cons (ed_var 4 rfl) ea_nil) ⟨_, rfl, ?_, ?_, rfl⟩ ?_) sea_nil imI) imE) imE) imE) imE) imE) imE) imE)
          (se_imp (se_call 0 (cal_law_draw T) hr (by decide) rfl (ea_cons ed_int ea_nil) ⟨_, rfl, by decide, by decide +kernel, rfl⟩ ?_) (fun d ⟨r, e, h0, h1⟩ => ⟨r.toNat, by rw [e, Int.toNat_of_nonneg h0], by show r.toNat < 8; omega⟩) (Nat.le_refl _)) ?_ (by simp)) (fun d ⟨P1, hP, hd⟩ => ?_) ?_
        · omega
        · exact wide_div (b := 8) (by decide) (by decide) (by decide) (by decide)
        · omega
        · exact Int.lt_of_le_of_lt n16 (by decide +kernel)
        · omega
        · omega
        · intro P1 hP d hd
          simp only [List.mem_cons, List.not_mem_nil, or_false] at hP
          rcases hP with rfl | rfl | rfl | rfl | rfl | rfl | rfl | rfl
          all_goals first | (subst hd; rfl) | (obtain ⟨r, rfl, _⟩ := hd; rfl)
        · simp only [List.mem_cons, List.not_mem_nil, or_false] at hP
          have m2 := Int.emod_nonneg 2 (show (2 : Int) ^ n ≠ 0 by omega)
          have m3 := Int.emod_lt_of_pos 2 (show (0 : Int) < 2 ^ n by omega)
          rcases hP with rfl | rfl | rfl | rfl | rfl | rfl | rfl | rfl
          · exact ⟨_, hd, by omega, by omega⟩
          · exact ⟨_, hd, by omega, by omega⟩
          · exact ⟨_, hd, by omega, by omega⟩
          · exact ⟨_, hd, by omega, by omega⟩
          · exact ⟨_, hd, m2, m3⟩
          · exact ⟨_, hd, by omega, by omega⟩
          · exact ⟨_, hd, by omega, by omega⟩
          · exact hd
        · omega
      · have := dpA_len dvl
        rw [List.length_map] at this
        omega
      · obtain ⟨x, rfl, hx0, hx1⟩ := hp
        refine ⟨F3, ys ++ [v], vl ++ [x], some (.dat (.int (i : Nat))), ?_, hl3, ?_, by rw [List.length_append, hvl]; rfl, fun y hy => ?_, kF.trans k3⟩
        · exact ⟨E5.env, E5.str.mono (by omega), E5.off, E5.im⟩
        · rw [List.map_append]
          exact dpA_app (dpA_tk t3.1 _ (immL_iff.mpr fun d hd => by obtain ⟨z, _, rfl⟩ := List.mem_map.mp hd; rfl) dvl) (.cons dv3 .nil)
        · rcases List.mem_append.mp hy with q | q
          · exact hx y q
          · rw [List.mem_singleton.mp q]; exact ⟨hx0, hx1⟩
    · rintro σ4 H4 ⟨F2, ys, vl, o5, E4, hl4, dvl, hvl, hx, kF⟩
      refine (rs_ret (N' := N + 2 * m) (se_ed (d := dV vl) (ed_tupleL T.f_tuple (ed_ev (ev_var 3 rfl) (.lst (SqL.of hl4) dvl)))) (fun d v5 H5 H6 hp e5 k5 s5 dv5 => ?_) : RS _ F2 a _ _ _ _) _ H4 E4
      subst hp
      refine K1 _ v5 H6 ⟨vl, rfl, hvl, hx⟩ (fun b o hb nb => ?_) (s5.mono (by omega)) dv5
      have hbl : b ≠ l := fun z => by rw [z] at hb nb; rw [hole_ne nb, hb] at hl0; cases hl0
      exact k5 _ _ (e5 _ _ (kF _ _ (s1 _ _ (by rw [hole_ne nb]; exact hb)) hbl)) nb
end
end K86
end
section
namespace K86
open PySem PySem.Spec PyProof.Rows L2 DL WM
section
variable {P : Program} {w : World} {K : PySem.W.Frag} {mg : Str → Option Value} {base : Heap}
theorem imM {Pp : List (List Int) → Prop} : ∀ d, (∃ v, d = dM v ∧ Pp v) → imm d = true := fun d ⟨v, h, _⟩ => by subst h; exact imm_dM v
abbrev R_vectors : RelF := fun ds P => ∃ n m t : Nat, ds = [.int (n : Int), .int (m : Int), .int (t : Int)] ∧ ((1 ≤ n ∧ n ≤ 16) ∧ m ≤ 10 ∧ t ≤ 8) ∧ P = fun d => ∃ S, d = dM S ∧ S.length ≤ t ∧ ∀ v ∈ S, IsVec n m v
theorem cal_law_vectors (T : Top K mg) : Cal P w K mg base 3 "_law_vectors" (spSt K 800000 1000 R_vectors) := by
  obtain ⟨fd, F⟩ := T.def_ i__law_vectors rfl
  have sc : FnScope ["stream", "width", "size", "most", "found", "factor", "turn", "word"] ["stream", "width", "size", "most"] (defScope s__law_vectors) := ⟨rfl, rfl, rfl, by decide +kernel, rfl, by decide +kernel, by decide +kernel⟩
  have scN := sc.nd
  refine ⟨_, fd, _, fnB (k := 2) F sc (fun vs H Q E h => ?_) (fun cd A outer s H vs Q E hr h => ?_), T.glo j__law_vectors rfl, F.kp, F.bindsN (fun _ _ _ _ _ _ us hl => match us, hl with | [_, _, _, _], _ => rfl)⟩
  · obtain ⟨a, vs', ds, P', N, rfl, h1, ⟨n, m, t, rfl, _⟩, _⟩ := h
    rw [List.length_cons, dpA_len h1]; rfl
  · obtain ⟨a, vs', ds, P', N, rfl, h1, ⟨n, m, t, rfl, ⟨⟨c1, c2⟩, c3, c4⟩, rfl⟩, hst, hN, K1⟩ := h
    have n16 := pow16 c2
    have im0 : immRX K (rhoS ["stream", "width", "size", "most", "found", "factor", "turn", "word"] [.val (.ref a), .dat (.int (n : Nat)), .dat (.int (m : Nat)), .dat (.int (t : Nat))]) := immRX_of (immR_S (immR_cons rfl (immR_cons rfl (immR_cons rfl (immR_cons rfl immR_nil)))))
    refine (?_ : RB _ H (rhoS ["stream", "width", "size", "most", "found", "factor", "turn", "word"] [.val (.ref a), .dat (.int (n : Nat)), .dat (.int (m : Nat)), .dat (.int (t : Nat))]) _ _) _ H (env_startS (.cons rfl (slAll_ds h1)))
    refine rb_rs hst im0 ?_
    refine rs_asgL 4 5 (P2 := fun d => ∃ x : Int, d = .int x ∧ 1 ≤ x ∧ x ≤ 2) (se_imp (se_ixL (sea_cons (se_ed ed_int) (sea_cons (se_ed ed_int) (sea_cons (se_ed ed_int) sea_nil imE) imE) imE)
      (se_imp (se_call 0 (cal_law_draw T) hr (by decide) rfl (ea_cons ed_int ea_nil) ⟨_, rfl, by decide, by decide +kernel, rfl⟩ (by omega)) (fun d ⟨r, e, h0, h1⟩ => ⟨r.toNat, by rw [e, Int.toNat_of_nonneg h0], by show r.toNat < 3; omega⟩) (Nat.le_refl _)) ?_ (by simp)) (fun d ⟨P1, hP, hd⟩ => ?_) (Nat.le_refl _)) imI (fun F1 l d2 hd2 s1 hl0 hl1 ha1 => ?_) rfl scN
    · intro P1 hP d hd
      simp only [List.mem_cons, List.not_mem_nil, or_false] at hP
      rcases hP with rfl | rfl | rfl
      all_goals (subst hd; rfl)
    · simp only [List.mem_cons, List.not_mem_nil, or_false] at hP
      rcases hP with rfl | rfl | rfl
      all_goals exact ⟨_, hd, by decide, by decide⟩
    obtain ⟨f, rfl, f1, f2⟩ := hd2
    refine fun σ2 H2 E2 => wb_cons (ws_forR 6 ((sea_cons (se_call 0 (cal_law_draw T) hr (by decide) rfl (ea_cons (ed_add (ed_var 3 rfl) ed_int) ea_nil) ⟨_, rfl, by omega, Int.lt_of_le_of_lt (show (t : Int) + 1 ≤ 65536 by omega) (by decide +kernel), rfl⟩ (by omega)) sea_nil imI : SEA _ F1 a _ _ _ _ _) σ2 H2 _ E2 fun ds vs H3 hds k3 s3 dvs => ?_) T.f_range rfl PassesOwn.never scN)
    obtain ⟨d, r, rfl, ⟨x, rfl, x0, x1⟩, rfl⟩ := hds
    obtain ⟨v, rfl, dv⟩ := dpA1 dvs
    cases dp_int dv
    have E3 := E2.step k3 s3
    refine ⟨x.toNat, by rw [Int.toNat_of_nonneg x0], by omega, fun i σ4 H4 => ∃ (F2 : Hp) (ys : List V) (S : List (List Int)) (o6 : Option Slot), ES K F2 a (N + 2 + 100 * i) H4 σ4 [some (.val (.ref a)), some (.dat (.int (n : Nat))), some (.dat (.int (m : Nat))), some (.dat (.int (t : Nat))), some (.val (.ref l)), some (.dat (.int f)), o6, none] ∧ F2 l = some (.lst ys) ∧ DpAll K F2 ys (S.map fun v => dV v) ∧ S.length = i ∧ (∀ v ∈ S, IsVec n m v) ∧ Keep (· = l) F1 F2, ?_, ?_, ?_⟩
    · exact ⟨F1, [], [], none, E3, hl1, .nil, rfl, (fun _ h => nomatch h), Keep.of (Same.refl _)⟩
    · rintro i σ4 H4 hi ⟨F2, ys, S, o6, E4, hl4, dvl, hvl, hx, kF⟩
      have hix : i < t + 1 := by omega
      refine (rs_append (P := fun d => ∃ v : List Int, d = dV v ∧ IsVec n m v) (N' := N + 2 + 100 * i + 100) 4 rfl hl4 (se_imp (se_tupleL T.f_tuple (se_lcRow (Pr := IsVec n m) (own := [("word", 7)]) (js := [7]) (res := fun w => .int (f * w % 2 ^ n)) (en := fun w => ([some (.val (.ref a)), some (.dat (.int (n : Nat))), some (.dat (.int (m : Nat))), some (.dat (.int (t : Nat))), some (.val (.ref l)), some (.dat (.int f)), some (.dat (.int (i : Nat))), some (.dat (.int w))] : Rho))
        (se_call 0 (cal_law_row T) hr (by decide) rfl (ea_cons (ed_var 1 rfl) (ea_cons (ed_var 2 rfl) ea_nil)) ⟨_, _, rfl, ⟨⟨c1, c2⟩, c3⟩, rfl⟩ (by omega)) (fun v hv => by have := hv.1; omega) rfl scN (blkOk_by (N := ["stream", "width", "size", "most", "found", "factor", "turn", "word"]) (sc := (defScope s__law_vectors)) (by decide +kernel)) (fun _ _ _ _ _ => pg_name (i := 7) scN rfl (by first | exact Or.inl rfl | exact Or.inr rfl)) (by decide) (fun w => tg_name) (fun s0 H0 C cl fp v hv w hw => (ed_mod (ed_mul (ed_var 5 rfl) (ed_var 7 rfl) ?_) (ed_shl1 (ed_var 1 rfl) ?_) ?_)) (fun _ => rfl)) (fun d ⟨v, _, hd⟩ => ⟨_, hd⟩)) (fun d ⟨ds, ⟨v, hv, hd⟩, hd2⟩ => ?_) (Nat.le_refl _)) ?_ imV (fun F3 d v hp k3 t3 hl3 dv3 ha3 => rs_nil fun σ5 H5 E5 => ?_) : RS _ F2 a _ _ _ _) _ H4 (E4.set (i := 6) (x := .dat (.int (i : Nat))) (.int _) (.inl rfl))
      · have hw2 := hv.2 w hw
        exact mulx_ok (a := 20) (b := 20) (nab (by omega) (by omega)) (nab (by omega) (by omega)) (by decide)
      · omega
      · exact pow_pos2 n
      · have e1 : ds = v.map fun w => PyData.int (f * w % 2 ^ n) := by injection hd
        refine ⟨v.map fun w => f * w % 2 ^ n, by rw [hd2, e1]; simp, isVec_mul (w := n) (v := v) (f := f) hv.1⟩
      · have := dpA_len dvl
        rw [List.length_map] at this
        omega
      · obtain ⟨v', rfl, hv'⟩ := hp
        refine ⟨F3, ys ++ [v], S ++ [v'], some (.dat (.int (i : Nat))), ⟨E5.env, E5.str.mono (by omega), E5.off, E5.im⟩, hl3, ?_, by rw [List.length_append, hvl]; rfl, fun y hy => ?_, kF.trans k3⟩
        · rw [List.map_append]
          exact dpA_app (dpA_tk t3.1 _ (immL_iff.mpr fun d hd => by obtain ⟨z, _, rfl⟩ := List.mem_map.mp hd; exact imm_dV z) dvl) (.cons dv3 .nil)
        · rcases List.mem_append.mp hy with q | q
          · exact hx y q
          · rw [List.mem_singleton.mp q]; exact hv'
    · rintro σ4 H4 ⟨F2, ys, S, o6, E4, hl4, dvl, hvl, hx, kF⟩
      refine (rs_ret (se_ed (d := dM S) (ed_tupleL T.f_tuple (ed_ev (ev_var 4 rfl) (.lst (SqL.of hl4) dvl)))) (fun d v5 H5 H6 hp e5 k5 s5 dv5 => ?_) : RS _ F2 a _ _ _ _) _ H4 E4
      subst hp
      refine K1 _ v5 H6 ⟨S, rfl, by omega, hx⟩ (fun b o hb nb => ?_) (s5.mono (by omega)) dv5
      have hbl : b ≠ l := fun z => by rw [z] at hb nb; rw [hole_ne nb, hb] at hl0; cases hl0
      exact k5 _ _ (e5 _ _ (kF _ _ (s1 _ _ (by rw [hole_ne nb]; exact hb)) hbl)) nb
end
end K86
end
section
namespace K86
open PySem PySem.Spec PyProof.Rows L2 DL WM
section
variable {P : Program} {w : World} {K : PySem.W.Frag} {mg : Str → Option Value} {base : Heap}
abbrev R_law_dot : RelF := fun ds P => ∃ (n m : Nat) (u v : List Int), ds = [.int (n : Int), dV u, dV v] ∧ (n ≤ 16 ∧ m ≤ 1000) ∧ (IsVec n m u ∧ IsVec n m v) ∧ P = (· = .int (dotV u v % 2 ^ n))
theorem cal_law_dot (T : Top K mg) : Cal P w K mg base 1 "_law_dot" (spR K R_law_dot) := by
  obtain ⟨fd, F⟩ := T.def_ i__law_dot rfl
  have sc : FnScope ["width", "row", "state", "one", "other"] ["width", "row", "state"] (defScope s__law_dot) := ⟨rfl, rfl, rfl, by decide +kernel, rfl, by decide +kernel, by decide +kernel⟩
  have scN := sc.nd
  refine calR (k := 0) F (T.glo j__law_dot rfl) sc (fun _ _ _ _ _ _ us hl => match us, hl with | [_, _, _], _ => rfl) (fun ds P' h => ?_) (fun cd A outer s H E ds P' hr h => ?_)
  · obtain ⟨n, m, u, v, rfl, _⟩ := h
    rfl
  · obtain ⟨n, m, u, v, rfl, ⟨h1, h2⟩, ⟨hu, hv⟩, rfl⟩ := h
    have n16 := pow16 h1
    have hul := hu.1
    refine bd_ret (ed_eq (ed_mod (ed_sumC T.f_sum rfl (ed_lc (own := [("one", 3), ("other", 4)]) (js := [3, 4]) rfl scN (it_zTT T.f_zip (ed_var 1 rfl) (ed_var 2 rfl)) (blkOk_by (N := ["width", "row", "state", "one", "other"]) (sc := (defScope s__law_dot)) (by decide +kernel)) (fun _ _ _ _ _ => pg_tup rfl (pgs_cons (pg_name (i := 3) scN rfl (by first | exact Or.inl rfl | exact Or.inr rfl)) (pgs_cons (pg_name (i := 4) scN rfl (by first | exact Or.inl rfl | exact Or.inr rfl)) pgs_nil))) (by decide) (fun i hi => tg_two) (fun s H C cl fp i hi => (ed_mul (ed_var 3 rfl) (ed_var 4 rfl) ?_)) ?_ ?_)) (ed_shl1 (ed_var 0 rfl) ?_) ?_) ?_) rfl
    · have hi : (‹Int × Int›).1 ∈ u ∧ (‹Int × Int›).2 ∈ v := ⟨(List.of_mem_zip ‹_›).1, (List.of_mem_zip ‹_›).2⟩
      have a := hu.2 _ hi.1
      have b := hv.2 _ hi.2
      exact mulx_ok (a := 20) (b := 20) (nab (by omega) (by omega)) (nab (by omega) (by omega)) (by decide)
    · exact fun _ _ => rfl
    · rw [List.length_zip]; omega
    · omega
    · exact pow_pos2 n
    · rfl
theorem ed_repL {X : Cx} {F : Hp} {ρ : Rho} {e b : Expr} {pos p2 : Pos} {i : Int} {k : Nat} (ha : ED X F ρ e (.int i)) (hb : ED X F ρ b (.int (k : Int))) (hk : k ≤ 1000) (hs : starEach [e] X.env = (false, eval e X.env) :: starEach [] X.env := by rfl) : ED X F ρ (.BinOp (.List [e] p2) .Mult b pos) (.list ((List.replicate k i).map .int)) := fun σ H Q E q => by
  refine ofE (pe_op op_rep (pe_lst pa_w) pe_w) ?_
  refine (ea_cons ha ea_nil hs) σ H _ E fun vs H1 e1 dvs => ⟨by rw [dpA_len dvs]; simp [sizeLine_eq], fun l hl => ?_⟩
  obtain ⟨v, rfl, dv⟩ := dpA1 dvs
  cases dp_int dv
  have e2 : Same H1 (upd H1 l (.lst [V.int i])) := Same.new hl
  refine hb σ _ _ ((E.mono e1).mono e2) fun v H2 e3 dv => ?_
  refine ⟨l, (k : Int), [V.int i], rfl, dp_int dv, e3 _ _ upd_same, by omega, by omega, by simp [sizeLine_eq]; omega, fun p hp => ?_⟩
  refine q _ _ (((e1.trans e2).trans e3).trans (Same.new hp)) (.lst (SqL.of upd_same) ?_)
  have e : (List.replicate (k : Int).toNat [V.int i]).flatten = (List.replicate k i).map V.int := by simp
  rw [e]
  exact ints_dpA _
abbrev R_law_is_zero : RelF := fun ds P => ∃ (n m : Nat) (A B : List (List Int)), ds = [.int (n : Int), dM A, dM B] ∧ (n ≤ 16 ∧ m ≤ 1000 ∧ A.length ≤ 1000 ∧ B.length ≤ 1000) ∧ ((∀ v ∈ A, IsVec n m v) ∧ ∀ v ∈ B, IsVec n m v) ∧ P = (· = .bool (isZ n A B))
theorem cal_law_is_zero (T : Top K mg) : Cal P w K mg base 2 "_law_is_zero" (spR K R_law_is_zero) := by
  obtain ⟨fd, F⟩ := T.def_ i__law_is_zero rfl
  have sc : FnScope ["width", "first", "second", "one", "other"] ["width", "first", "second"] (defScope s__law_is_zero) := ⟨rfl, rfl, rfl, by decide +kernel, rfl, by decide +kernel, by decide +kernel⟩
  have scN := sc.nd
  refine calR (k := 1) F (T.glo j__law_is_zero rfl) sc (fun _ _ _ _ _ _ us hl => match us, hl with | [_, _, _], _ => rfl) (fun ds P' h => ?_) (fun cd A outer s H E ds P' hr h => ?_)
  · obtain ⟨n, m, A, B, rfl, _⟩ := h
    rfl
  · obtain ⟨n, m, A, B, rfl, ⟨h1, h2, h3, h4⟩, ⟨hA, hB⟩, rfl⟩ := h
    refine bd_for (items := A) (enc := fun v => dV v) (en := fun v ρ => ρ.set 3 (some (.dat (dV v)))) (js := [3]) (fun i ρ' => (∃ o3 o4, ρ' = [some (.dat (.int (n : Int))), some (.dat (dM A)), some (.dat (dM B)), o3, o4]) ∧ isZ n (A.take i) B = true) rfl PassesOwn.never (it_tup (ed_var 1 rfl)) (pg_name (i := 3) scN rfl (by first | exact Or.inl rfl | exact Or.inr rfl)) ⟨⟨none, none, rfl⟩, by simp [isZ]⟩ (fun i hi ρ' => tg_name) (fun i a ρ' hi hρ => ?_) (fun ρ' hρ => ?_)
    · obtain ⟨⟨o3, o4, rfl⟩, hz⟩ := hρ
      have tk1 : A.take (i + 1) = A.take i ++ [a] := by rw [List.take_succ, hi]; rfl
      have ha := List.mem_of_getElem? hi
      refine bd_for (items := B) (enc := fun v => dV v) (en := fun v ρ => ρ.set 4 (some (.dat (dV v)))) (js := [4]) (fun j ρ' => (∃ o4, ρ' = [some (.dat (.int (n : Int))), some (.dat (dM A)), some (.dat (dM B)), some (.dat (dV a)), o4]) ∧ ∀ b ∈ B.take j, dotV a b % 2 ^ n = 0) rfl PassesOwn.never (it_tup (ed_var 2 rfl)) (pg_name (i := 4) scN rfl (by first | exact Or.inl rfl | exact Or.inr rfl)) ⟨⟨o4, rfl⟩, (by simp)⟩ (fun i hi ρ' => tg_name) (fun j b ρ' hj hρ => ?_) (fun ρ' hρ => bd_nil ?_)
      · obtain ⟨⟨o4, rfl⟩, hz2⟩ := hρ
        have hb := List.mem_of_getElem? hj
        have tk2 : B.take (j + 1) = B.take j ++ [b] := by rw [List.take_succ, hj]; rfl
        refine bd_if (td_neI (ed_call (cal_law_dot T) hr (by decide) (ea_cons (ed_var 0 rfl) (ea_cons (ed_var 3 rfl) (ea_cons (ed_var 4 rfl) ea_nil))) ⟨_, m, _, _, rfl, ?_, ?_, rfl⟩) ed_int) (fun ht => ?_) (fun ht => ?_)
        · exact ⟨h1, h2⟩
        · exact ⟨hA a ha, hB b hb⟩
        · refine bd_ret ed_bl ?_
          have hne : dotV a b % 2 ^ n ≠ 0 := by simpa using ht
          have : isZ n A B = false := by
            cases z : isZ n A B with
            | false => rfl
            | true =>
              have h5 := List.all_eq_true.mp (List.all_eq_true.mp z a ha) b hb
              exact absurd (of_decide_eq_true h5) hne
          rw [this]
        · refine bd_nil (bd_nil ⟨⟨_, rfl⟩, fun y hy => ?_⟩)
          rw [tk2] at hy
          rcases List.mem_append.mp hy with q | q
          · exact hz2 y q
          · rw [List.mem_singleton.mp q]
            simpa using ht
      · obtain ⟨⟨o4, rfl⟩, hz2⟩ := hρ
        rw [List.take_length] at hz2
        refine ⟨⟨_, _, rfl⟩, ?_⟩
        rw [tk1]
        unfold isZ at *
        rw [List.all_append, hz]
        simp [List.all_eq_true, hz2]
        exact hz2
    · obtain ⟨⟨o3, o4, rfl⟩, hz⟩ := hρ
      rw [List.take_length] at hz
      exact bd_ret ed_bl (by rw [hz])
end
end K86
end
section
namespace K86
open PySem PySem.Spec PyProof.Rows L2 DL WM
section
variable {P : Program} {w : World} {K : PySem.W.Frag} {mg : Str → Option Value} {base : Heap}
abbrev R_law_sum : RelF := fun ds P => ∃ (n m : Nat) (S : List (List Int)) (ws : List Int), ds = [.int (n : Int), .int (m : Int), dM S, dV ws] ∧ (n ≤ 16 ∧ m ≤ 1000) ∧ (∀ v ∈ S, IsVec n m v) ∧ (∀ x ∈ ws, 0 ≤ x ∧ x < 2 ^ n) ∧ P = (· = dV (lsum n m S ws))
theorem cal_law_sum (T : Top K mg) : Cal P w K mg base 1 "_law_sum" (spR K R_law_sum) := by
  obtain ⟨fd, F⟩ := T.def_ i__law_sum rfl
  have sc : FnScope ["width", "size", "vectors", "words", "found", "vector", "word", "entry", "more"] ["width", "size", "vectors", "words"] (defScope s__law_sum) := ⟨rfl, rfl, rfl, by decide +kernel, rfl, by decide +kernel, by decide +kernel⟩
  have scN := sc.nd
  refine calR (k := 0) F (T.glo j__law_sum rfl) sc (fun _ _ _ _ _ _ us hl => match us, hl with | [_, _, _, _], _ => rfl) (fun ds P' h => ?_) (fun cd A outer s H E ds P' hr h => ?_)
  · obtain ⟨n, m, S, ws, rfl, _⟩ := h
    rfl
  · obtain ⟨n, m, S, ws, rfl, ⟨h1, h2⟩, hS, hw, rfl⟩ := h
    have n16 := pow16 h1
    refine bd_set 4 (d := .list ((List.replicate m 0).map .int)) (ed_repL ed_int (ed_var 1 rfl) h2) ?_ scN
    have hg : ∀ i, IsVec n m (((S.zip ws).take i).foldl (fun f q => stepS n f q.1 q.2) (List.replicate m 0)) := fun i => by
      have gen : ∀ (L : List (List Int × Int)) (f : List Int), (∀ q ∈ L, IsVec n m q.1) → IsVec n m f → IsVec n m (L.foldl (fun f q => stepS n f q.1 q.2) f) := fun L => by
        induction L with
        | nil => exact fun f _ hf => hf
        | cons q L ih => exact fun f hq hf => ih _ (fun x hx => hq x (List.mem_cons_of_mem _ hx)) (stepS_ok hf.1 (hq q List.mem_cons_self).1).1
      exact gen _ _ (fun q hq => hS _ (List.of_mem_zip (List.mem_of_mem_take hq)).1) isVec_zero
    obtain ⟨fo, hfo⟩ : ∃ fo : Nat → List Int, ∀ i, fo i = ((S.zip ws).take i).foldl (fun f q => stepS n f q.1 q.2) (List.replicate m 0) := ⟨_, fun _ => rfl⟩
    have hg' : ∀ i, IsVec n m (fo i) := fun i => by rw [hfo]; exact hg i
    refine bd_for (items := S.zip ws) (enc := fun q => .tuple [dV q.1, .int q.2]) (en := fun q ρ => (ρ.set 5 (some (.dat (dV q.1)))).set 6 (some (.dat (.int q.2)))) (js := [5, 6]) (fun i ρ' => ∃ o5 o6, ρ' = [some (.dat (.int (n : Int))), some (.dat (.int (m : Int))), some (.dat (dM S)), some (.dat (dV ws)), some (.dat (.list ((fo i).map .int))), o5, o6, none, none]) rfl PassesOwn.never (it_zTT T.f_zip (ed_var 2 rfl) (ed_var 3 rfl)) (pg_tup rfl (pgs_cons (pg_name (i := 5) scN rfl (by first | exact Or.inl rfl | exact Or.inr rfl)) (pgs_cons (pg_name (i := 6) scN rfl (by first | exact Or.inl rfl | exact Or.inr rfl)) pgs_nil))) ⟨none, none, by rw [hfo]; rfl⟩ (fun i hi ρ' => tg_two) (fun i q ρ' hi hρ => ?_) (fun ρ' hρ => ?_)
    · obtain ⟨o5, o6, rfl⟩ := hρ
      have hf := hg' i
      have hstep : ∀ tk1 : (S.zip ws).take (i + 1) = (S.zip ws).take i ++ [q], fo (i + 1) = stepS n (fo i) q.1 q.2 := fun tk1 => by rw [hfo, hfo, tk1, List.foldl_append]; rfl
      have tk1 : (S.zip ws).take (i + 1) = (S.zip ws).take i ++ [q] := by rw [List.take_succ, hi]; rfl
      have hq := List.of_mem_zip (List.mem_of_getElem? hi)
      have hq1 := hS _ hq.1
      have hq2 := hw _ hq.2
      have hst := hstep tk1
      generalize fo i = f at *
      have hfl := hf.1
      refine bd_ad 4 (d := .list ((stepS n f q.1 q.2).map .int)) (ad_eq (ad_lc (own := [("entry", 7), ("more", 8)]) (js := [7, 8]) rfl scN (it_zM (t1 := true) (t2 := false) (by decide) T.f_zip (ed_var 4 rfl) (ed_var 5 rfl)) (blkOk_by (N := ["width", "size", "vectors", "words", "found", "vector", "word", "entry", "more"]) (sc := (defScope s__law_sum)) (by decide +kernel)) (fun _ _ _ _ _ => pg_tup rfl (pgs_cons (pg_name (i := 7) scN rfl (by first | exact Or.inl rfl | exact Or.inr rfl)) (pgs_cons (pg_name (i := 8) scN rfl (by first | exact Or.inl rfl | exact Or.inr rfl)) pgs_nil))) (by decide) (fun i hi => tg_two) (fun s H C cl fp i hi => (ed_mod (ed_add (ed_var 7 rfl) (ed_mul (ed_var 6 rfl) (ed_var 8 rfl) ?_)) (ed_shl1 (ed_var 0 rfl) ?_) ?_)) ?_ ?_) ?_) (bd_nil ⟨some (.dat (dV q.1)), some (.dat (.int q.2)), by rw [hst]; rfl⟩)
      · have hi2 := (List.of_mem_zip ‹_›).2
        have hv := hq1.2 _ hi2
        exact mulx_ok (a := 20) (b := 20) (nab (by omega) (by omega)) (nab (by omega) (by omega)) (by decide)
      · omega
      · exact pow_pos2 n
      · exact fun _ _ => rfl
      · rw [List.length_zip]; omega
      · simp [stepS]
    · obtain ⟨o5, o6, rfl⟩ := hρ
      exact bd_ret (ed_tupleL T.f_tuple (ed_var 4 rfl)) (by rw [hfo, List.take_length]; rfl)
theorem comB_meet {n m : Nat} {A B : List (List Int)} : comB n m [A, B] = meet n m A B := by unfold comB meet; simp
theorem zip_self {α : Type} {L : List α} {i : Nat} {q : α × α} (h : (L.zip L)[i]? = some q) : L[i]? = some q.1 ∧ q.2 = q.1 := by
  rw [List.getElem?_zip_eq_some] at h
  refine ⟨h.1, ?_⟩
  have h1 := h.1
  rw [h.2] at h1
  injection h1
theorem ed_last {X : Cx} {F : Hp} {ρ : Rho} {e : Expr} {pos p1 p2 : Pos} {j : Nat} {ds : List PyData} {d : PyData} (ha : ED X F ρ e (.list (ds ++ [d]))) : ED X F ρ (.Subscript e (.UnaryOp .USub (.Constant (.int 1) j p1) p2) pos) d :=
  ed_two (pe_ix ix_list pe_w pe_w (by intro _ _; rfl)) ha (ed_neg ed_int) fun x y H Q hx hy k => by
    obtain ⟨q, xs, rfl, hq, hxs⟩ := dp_lst hx
    obtain ⟨us, v, rfl, _, dv⟩ := dpA_inv hxs
    exact ⟨q, us ++ [v], -1, v, rfl, dp_int hy, hq, atI_last us v, k _ _ (Same.refl H) dv⟩
theorem cnt_le {n m : Nat} {B : List (List Int)} (hn : 0 < n) (hB : Bas n m B) (h : n * m ≤ 160) : (cntB n B).natAbs < 2 ^ 200 := by
  have hA := (annB_ok hn hB.1).1
  have h1 := cnt_dual hn hB
  have a := (memF_ok hB).2.2.2
  have b := (memF_ok hA).2.2.2
  rw [← cntB_eq hB] at h1 a
  generalize cntB n B = x at *
  generalize cntP n (annB n m B) 1 = y at *
  have hy : y ≠ 0 := fun z => by rw [z, Int.mul_zero] at h1; have := pow_pos2 (n * m); omega
  have hx : x * 1 ≤ x * y := Int.mul_le_mul_of_nonneg_left (by omega) (by omega)
  have h2 : (2 : Int) ^ (n * m) ≤ 2 ^ 160 := by
    have : 2 ^ (n * m) ≤ 2 ^ 160 := Nat.pow_le_pow_right (by decide) h
    exact_mod_cast this
  have h3 : (2 : Int) ^ 160 < 2 ^ 200 := by decide
  exact nab (by omega) (by omega)
theorem nm160 {n m : Nat} (h1 : n ≤ 16) (h2 : m ≤ 10) : n * m ≤ 160 := Nat.mul_le_mul h1 h2
abbrev LawC (n m : Nat) : Prop := (1 ≤ n ∧ n ≤ 16) ∧ 1 ≤ m ∧ m ≤ 10
theorem two_bas {n m : Nat} {A B : List (List Int)} (hA : Bas n m A) (hB : Bas n m B) : ∀ D ∈ [A, B], Bas n m D := fun D hD => by
  simp at hD
  rcases hD with rfl | rfl <;> assumption
abbrev R_law_pairs_right : RelF := fun ds P => ∃ (n m : Nat) (A B : List (List Int)), ds = [.int (n : Int), .int (m : Int), dM A, dM B] ∧ LawC n m ∧ (Bas n m A ∧ Bas n m B) ∧ P = (· = .bool true)
theorem cal_law_pairs_right (T : Top K mg) : Cal P w K mg base 11 "_law_pairs_right" (spR K R_law_pairs_right) := by
  obtain ⟨fd, F⟩ := T.def_ i__law_pairs_right rfl
  have sc : FnScope ["width", "size", "one", "other", "both", "common", "duals", "counts", "basis", "dual"] ["width", "size", "one", "other"] (defScope s__law_pairs_right) := ⟨rfl, rfl, rfl, by decide +kernel, rfl, by decide +kernel, by decide +kernel⟩
  have scN := sc.nd
  refine calRB (k := 10) F (T.glo j__law_pairs_right rfl) sc (fun _ _ _ _ _ _ us hl => match us, hl with | [_, _, _, _], _ => rfl) (fun ds P' h => ?_) (fun cd A0 outer s H E ds P' vs hr h hds => ?_)
  · obtain ⟨n, m, A, B, rfl, _⟩ := h
    rfl
  · obtain ⟨n, m, A, B, rfl, ⟨c1, c2, c3⟩, ⟨hA, hB⟩, rfl⟩ := h
    have hn : 0 < n := c1.1
    refine (?_ : RB _ H (rhoS ["width", "size", "one", "other", "both", "common", "duals", "counts", "basis", "dual"] [.dat (.int (n : Nat)), .dat (.int (m : Nat)), .dat (dM A), .dat (dM B)]) _ _) _ H (env_startS (slAll_ds hds))
    have hS := (basF_ok (vec_app hA.1 hB.1)).1
    have hM := (meet_ok hn hA.1 hB.1).1
    have eS : basF n m [A, B].flatten = basF n m (A ++ B) := by simp
    refine rb_par 4 5 (d1 := dM (basF n m (A ++ B))) (d2 := dM (meet n m A B)) (ed_eq (ed_callS (np := 2) (cal_joined_basis T) hr (by decide) (ea_cons (ed_var 0 rfl) (ea_cons (ed_var 1 rfl) (ea_cons (ed_var 2 rfl) (ea_cons (ed_var 3 rfl) ea_nil)))) ⟨_, _, [A, B], rfl, ?_, ?_, ?_, rfl⟩ (by first | decide | simp)) (by rw [eS])) (ed_eq (ed_callS (np := 2) (cal_common_basis T) hr (by decide) (ea_cons (ed_var 0 rfl) (ea_cons (ed_var 1 rfl) (ea_cons (ed_var 2 rfl) (ea_cons (ed_var 3 rfl) ea_nil)))) ⟨_, _, [A, B], rfl, ?_, ?_, ?_, rfl⟩ (by first | decide | simp)) (by rw [comB_meet])) ?_ rfl scN
    · exact ⟨c1, c2, by omega⟩
    · simp
    · exact two_bas hA hB
    · exact ⟨c1, c2, by omega⟩
    · simp
    · exact two_bas hA hB
    generalize hSe : basF n m (A ++ B) = S at *
    generalize hMe : meet n m A B = M at *
    have dl : ∀ D ∈ ([A, B, S, M] : List (List (List Int))), Bas n m D := fun D hD => by
      simp at hD
      rcases hD with rfl | rfl | rfl | rfl <;> assumption
    have Lnil : (List.length ([] : List (List (List Int)))) = 0 := rfl
    refine rb_adV 6 (d := .list (([A, B, S, M] : List (List (List Int))).map fun D => dM (annB n m D))) (ad_eq (ad_lc (own := [("basis", 8)]) (js := [8]) rfl scN (it_tup (ed_eq (ed_tup (ea_cons (ed_var 2 rfl) (ea_cons (ed_var 3 rfl) (ea_cons (ed_var 4 rfl) (ea_cons (ed_var 5 rfl) ea_nil)))) (by first | decide | simp)) (show PyData.tuple [dM A, dM B, dM S, dM M] = .tuple (([A, B, S, M] : List (List (List Int))).map fun D => dM D) from rfl))) (blkOk_by (N := ["width", "size", "one", "other", "both", "common", "duals", "counts", "basis", "dual"]) (sc := (defScope s__law_pairs_right)) (by decide +kernel)) (fun _ _ _ _ _ => pg_name (i := 8) scN rfl (by first | exact Or.inl rfl | exact Or.inr rfl)) (by decide) (fun i hi => tg_name) (fun s H C cl fp i hi => (ed_call (cal_annihilator T) hr (by decide) (ea_cons (ed_var 0 rfl) (ea_cons (ed_var 1 rfl) (ea_cons (ed_var 8 rfl) ea_nil))) ⟨_, _, _, rfl, ?_, ?_, rfl⟩)) ?_ ?_) rfl) (fun H1 v e1 dv => ?_)
    · exact ⟨c1, c2, by omega⟩
    · exact dl _ ‹_›
    · exact fun _ _ => imm_dM _
    · simp
    obtain ⟨q, xs, rfl, hq, hx⟩ := dp_lst dv
    have dA := annB_ok hn hA.1
    have dB := annB_ok hn hB.1
    have hdv : Dp K H1 (.ref q) (.list [dM (annB n m A), dM (annB n m B), dM (annB n m S), dM (annB n m M)]) := dv
    refine rb_skip (td_neD hr.units (ed_ixL (j := 2) (ed_ev (ev_var 6 rfl) hdv) ed_int rfl) (ed_callS (np := 2) (cal_common_basis T) hr (by decide) (ea_cons (ed_var 0 rfl) (ea_cons (ed_var 1 rfl) (ea_cons (ed_ixL (j := 0) (ed_ev (ev_var 6 rfl) hdv) ed_int rfl) (ea_cons (ed_ixL (j := 1) (ed_ev (ev_var 6 rfl) hdv) ed_int rfl) ea_nil)))) ⟨_, _, [annB n m A, annB n m B], rfl, ?_, ?_, ?_, rfl⟩ (by first | decide | simp)) ?_ ?_) ?_ ?_
    · exact ⟨c1, c2, by omega⟩
    · simp
    · exact two_bas dA.1 dB.1
    · exact encM.shaped (by decide) _
    · exact encM.shaped (by decide) _
    · rw [comB_meet, ← hSe, ann_join hn hA.1 hB.1, encM.dec]; simp
    refine rb_skip (td_neD hr.units (ed_ixL (j := 3) (ed_ev (ev_var 6 rfl) hdv) ed_int rfl) (ed_callS (np := 2) (cal_joined_basis T) hr (by decide) (ea_cons (ed_var 0 rfl) (ea_cons (ed_var 1 rfl) (ea_cons (ed_ixL (j := 0) (ed_ev (ev_var 6 rfl) hdv) ed_int rfl) (ea_cons (ed_ixL (j := 1) (ed_ev (ev_var 6 rfl) hdv) ed_int rfl) ea_nil)))) ⟨_, _, [annB n m A, annB n m B], rfl, ?_, ?_, ?_, rfl⟩ (by first | decide | simp)) ?_ ?_) ?_ ?_
    · exact ⟨c1, c2, by omega⟩
    · simp
    · exact two_bas dA.1 dB.1
    · exact encM.shaped (by decide) _
    · exact encM.shaped (by decide) _
    · have : ([annB n m A, annB n m B] : List (List (List Int))).flatten = annB n m A ++ annB n m B := by simp
      rw [this, ← hMe, ann_meet hn hA.1 hB.1, encM.dec]; simp
    refine rb_setL 7 ea_nil (by simp) (fun H2 c ys e2 hc hlc dys => ?_) scN
    have hcn : c ≠ q ∨ True := .inr trivial
    have hys : ys = [] := by cases dys; rfl
    subst hys
    have hqk : ∀ H', Keep (· = c) H2 H' → SqL K H' q xs := fun H' k => sqL_keep hq ((Keep.of e2).trans k) (.inl hc)
    have im0 : immR (rhoS ["width", "size", "one", "other", "both", "common", "duals", "counts", "basis", "dual"] [.dat (.int (n : Nat)), .dat (.int (m : Nat)), .dat (dM A), .dat (dM B), .dat (dM S), .dat (dM M), .val (.ref q), .val (.ref c)]) := immR_S (immR_cons rfl (immR_cons rfl (immR_cons (imm_dM A) (immR_cons (imm_dM B) (immR_cons (imm_dM S) (immR_cons (imm_dM M) (immR_cons rfl (immR_cons rfl immR_nil))))))))
    refine rb_for (items := ([A, B, S, M] : List (List (List Int))).zip [A, B, S, M]) (enc := fun z => .tuple [dM z.1, dM (annB n m z.2)]) (en := fun z ρ => (ρ.set 8 (some (.dat (dM z.1)))).set 9 (some (.dat (dM (annB n m z.2))))) (js := [8, 9]) (G := fun H3 H4 => TK K H3 H4 ∧ SqL K H4 q xs)
      (W := fun H3 i F' ρ' => (∃ o8 o9 zs, ρ' = [some (.dat (.int (n : Nat))), some (.dat (.int (m : Nat))), some (.dat (dM A)), some (.dat (dM B)), some (.dat (dM S)), some (.dat (dM M)), some (.val (.ref q)), some (.val (.ref c)), o8, o9] ∧ F' c = some (.lst zs) ∧ DpAll K F' zs ((([A, B, S, M] : List (List (List Int))).take i).map fun D => .int (cntB n D))) ∧ Keep (· = c) H3 F' ∧ TK K H3 F' ∧ immR ρ') rfl PassesOwn.never
      (fun σ5 H5 R E5 kk => im_zTL2 (f1 := fun D => dM D) (f2 := fun D => dM (annB n m D)) (xs := [A, B, S, M]) (ys := [A, B, S, M]) T.f_zip (ed_eq (ed_tup (ea_cons (ed_var 2 rfl) (ea_cons (ed_var 3 rfl) (ea_cons (ed_var 4 rfl) (ea_cons (ed_var 5 rfl) ea_nil)))) (by first | decide | simp)) (show PyData.tuple [dM A, dM B, dM S, dM M] = .tuple (([A, B, S, M] : List (List (List Int))).map fun D => dM D) from rfl)) (ev_var 6 rfl) (e2.seq hq) (dpA_mono e2 hx) (fun D => imm_dM D) (fun D => imm_dM _) (by rfl) (by rfl) (by rfl) (by rfl) σ5 H5 R E5 kk) (pg_tup rfl (pgs_cons (pg_name (i := 8) scN rfl (by first | exact Or.inl rfl | exact Or.inr rfl)) (pgs_cons (pg_name (i := 9) scN rfl (by first | exact Or.inl rfl | exact Or.inr rfl)) pgs_nil)))
      (fun H3 e3 => ⟨⟨none, none, [], rfl, e3 _ _ hlc, .nil⟩, Keep.of (Same.refl _), TK.refl _, im0⟩) (fun H3 i F' H' ρ' e3 ⟨_, k3, t3, _⟩ e4 => ⟨t3.trans (TK.of e4), hqk _ (((Keep.of e3).trans k3).trans (Keep.of e4))⟩) (fun i hi ρ' => tg_two) (fun H3 i z F' ρ' e3 hz hW => ?_) (fun H3 F' ρ' e3 hW => ?_)
    · obtain ⟨⟨o8, o9, zs, rfl, hlz, dzs⟩, k3, t3, im3⟩ := hW
      obtain ⟨D0, D⟩ := z
      obtain ⟨hD, hDD⟩ := zip_self hz
      dsimp only at hD hDD
      subst hDD
      have bD := dl D (List.mem_of_getElem? hD)
      have bDl := bas_len bD
      have bA := (annB_ok hn bD.1).1
      have bAl := bas_len bA
      have iL : i < 4 := by have := (List.getElem?_eq_some_iff.mp hD).1; simpa using this
      have zl : zs.length = i := by rw [dpA_len dzs, List.length_map, List.length_take]; simp; omega
      have tk1 : ([A, B, S, M] : List (List (List Int))).take (i + 1) = ([A, B, S, M] : List (List (List Int))).take i ++ [D] := by rw [List.take_succ, hD]; rfl
      have im4 := (im3.set (i := 8) (x := .dat (dM D)) (imm_dM D)).set (i := 9) (x := .dat (dM (annB n m D))) (imm_dM _)
      refine rb_skip (td_w (tw_or (td_neD hr.units (ed_call (cal_annihilator T) hr (by decide) (ea_cons (ed_var 0 rfl) (ea_cons (ed_var 1 rfl) (ea_cons (ed_var 9 rfl) ea_nil))) ⟨_, _, _, rfl, ?_, ?_, rfl⟩) (ed_var 8 rfl) ?_ ?_) fun hb => (tw_or1 (td_not (td_val (ed_call (cal_law_is_zero T) hr (by decide) (ea_cons (ed_var 0 rfl) (ea_cons (ed_var 8 rfl) (ea_cons (ed_var 9 rfl) ea_nil))) ⟨_, m, _, _, rfl, ?_, ?_, rfl⟩)))))) ?_ ?_
      · exact ⟨c1, c2, by omega⟩
      · exact bA
      · exact encM.shaped (by decide) _
      · exact encM.shaped (by decide) _
      · exact ⟨c1.2, by omega, by show D.length ≤ 1000; omega, by show (annB n m D).length ≤ 1000; omega⟩
      · exact ⟨bD.1, bA.1⟩
      · rw [annB_self hn bD, isZ_dual hn bD.1, encM.dec]; simp
      refine rb_append (ev_var 7 rfl) hlz (d := .int (cntB n D)) (ed_call (cal_member_count T) hr (by decide) (ea_cons (ed_var 0 rfl) (ea_cons (ed_var 1 rfl) (ea_cons (ed_var 8 rfl) ea_nil))) ⟨_, _, _, rfl, ?_, ?_, rfl⟩) (by omega) rfl im4 (fun H4 v4 k4 t4 hl4 dv4 => ?_)
      · exact ⟨c1, c2, by omega⟩
      · exact bD
      have hcd : DpAll K H4 (zs ++ [v4]) (((([A, B, S, M] : List (List (List Int))).take i).map fun D => .int (cntB n D)) ++ [.int (cntB n D)]) := dpA_app (dpA_tk t4 _ (immL_iff.mpr fun d hd => by obtain ⟨D, _, rfl⟩ := List.mem_map.mp hd; rfl) dzs) (.cons dv4 .nil)
      have hcc : cntB n D * cntB n (annB n m D) = 2 ^ (n * m) := by rw [cntB_eq bD, cntB_eq bA]; exact cnt_dual hn bD
      refine rb_skip (td_neI (ed_mul (ed_last (ed_ev (ev_var 7 rfl) (.lst (SqL.of hl4) hcd))) (ed_call (cal_member_count T) hr (by decide) (ea_cons (ed_var 0 rfl) (ea_cons (ed_var 1 rfl) (ea_cons (ed_var 9 rfl) ea_nil))) ⟨_, _, _, rfl, ?_, ?_, rfl⟩) ?_) (ed_shl1 (ed_eq (ed_mul (ed_var 0 rfl) (ed_var 1 rfl) ?_) (show PyData.int ((n : Int) * (m : Int)) = .int ((n * m : Nat) : Int) by simp)) ?_)) ?_ (rb_nil fun σ9 H9 E9 => ⟨H4, _, ⟨⟨_, _, _, rfl, hl4, by rw [tk1, List.map_append]; exact hcd⟩, k3.trans k4, t3.trans t4, im4⟩, E9⟩)
      · exact ⟨c1, c2, by omega⟩
      · exact bA
      · exact mulx_ok (a := 200) (b := 200) (cnt_le hn bD (nm160 c1.2 c3)) (cnt_le hn bA (nm160 c1.2 c3)) (by decide)
      · exact mulx_ok (a := 20) (b := 20) (nab (by omega) (by omega)) (nab (by omega) (by omega)) (by decide)
      · have := nm160 c1.2 c3; omega
      · show (!decide (cntB n D * cntB n (annB n m D) = 2 ^ (n * m))) = false
        rw [hcc]; simp
    · obtain ⟨⟨o8, o9, zs, rfl, hlz, dzs⟩, k3, t3, im3⟩ := hW
      have hcd : Dp K F' (.ref c) (.list [.int (cntB n A), .int (cntB n B), .int (cntB n S), .int (cntB n M)]) := .lst (SqL.of hlz) dzs
      refine rb_ret (d := .bool true) (ed_eq (ed_eqI (ed_mul (ed_ixL (j := 0) (ed_ev (ev_var 7 rfl) hcd) ed_int rfl) (ed_ixL (j := 1) (ed_ev (ev_var 7 rfl) hcd) ed_int rfl) ?_) (ed_mul (ed_ixL (j := 2) (ed_ev (ev_var 7 rfl) hcd) ed_int rfl) (ed_ixL (j := 3) (ed_ev (ev_var 7 rfl) hcd) ed_int rfl) ?_)) ?_) fun v9 H9 e9 dv9 => ⟨_, rfl, ?_, dv9⟩
      · exact mulx_ok (a := 200) (b := 200) (cnt_le hn hA (nm160 c1.2 c3)) (cnt_le hn hB (nm160 c1.2 c3)) (by decide)
      · exact mulx_ok (a := 200) (b := 200) (cnt_le hn hS (nm160 c1.2 c3)) (cnt_le hn hM (nm160 c1.2 c3)) (by decide)
      · have := cnt_pair hn hA hB
        rw [hSe, hMe, ← cntB_eq hA, ← cntB_eq hB, ← cntB_eq hS, ← cntB_eq hM] at this
        rw [this]; simp
      · have hH2 : Keep (· = c) H2 F' := (Keep.of e3).trans k3
        exact fun b o hb => e9 _ _ (hH2 _ _ (e2 _ _ (e1 _ _ hb)) fun z => by rw [z] at hb; have := e1 _ _ hb; rw [hc] at this; cases this)
abbrev R_law_modular_right : RelF := fun ds P => ∃ (n m : Nat) (A B C : List (List Int)), ds = [.int (n : Int), .int (m : Int), dM A, dM B, dM C] ∧ LawC n m ∧ (Bas n m A ∧ Bas n m B ∧ Bas n m C) ∧ P = (· = .bool true)
theorem cal_law_modular_right (T : Top K mg) : Cal P w K mg base 11 "_law_modular_right" (spR K R_law_modular_right) := by
  obtain ⟨fd, F⟩ := T.def_ i__law_modular_right rfl
  have sc : FnScope ["width", "size", "one", "other", "third", "more", "left"] ["width", "size", "one", "other", "third"] (defScope s__law_modular_right) := ⟨rfl, rfl, rfl, by decide +kernel, rfl, by decide +kernel, by decide +kernel⟩
  have scN := sc.nd
  refine calR (k := 10) F (T.glo j__law_modular_right rfl) sc (fun _ _ _ _ _ _ us hl => match us, hl with | [_, _, _, _, _], _ => rfl) (fun ds P' h => ?_) (fun cd A outer s H E ds P' hr h => ?_)
  · obtain ⟨n, m, A, B, C, rfl, _⟩ := h
    rfl
  · obtain ⟨n, m, A, B, C, rfl, ⟨c1, c2, c3⟩, ⟨hA, hB, hC⟩, rfl⟩ := h
    have hn : 0 < n := c1.1
    have kM := (basF_ok (vec_app hA.1 hC.1)).1
    have kS := (basF_ok (vec_app hA.1 hB.1)).1
    have kI := (meet_ok hn hB.1 kM.1).1
    have kL := (basF_ok (vec_app hA.1 kI.1)).1
    have hmod := modular hn hA.1 hB.1 hC.1
    generalize hMe : basF n m (A ++ C) = M at *
    generalize hSe : basF n m (A ++ B) = S at *
    generalize hIe : meet n m B M = I at *
    refine bd_set 5 (d := dM M) (ed_eq (ed_callS (np := 2) (cal_joined_basis T) hr (by decide) (ea_cons (ed_var 0 rfl) (ea_cons (ed_var 1 rfl) (ea_cons (ed_var 2 rfl) (ea_cons (ed_var 4 rfl) ea_nil)))) ⟨_, _, [A, C], rfl, ?_, ?_, ?_, rfl⟩ (by first | decide | simp)) (by rw [← hMe]; simp)) ?_ scN
    · exact ⟨c1, c2, by omega⟩
    · simp
    · exact two_bas hA hC
    refine bd_set 6 (d := dM (basF n m (A ++ I))) (ed_eq (ed_callS (np := 2) (cal_joined_basis T) hr (by decide) (ea_cons (ed_var 0 rfl) (ea_cons (ed_var 1 rfl) (ea_cons (ed_var 2 rfl) (ea_cons (ed_eq (ed_callS (np := 2) (cal_common_basis T) hr (by decide) (ea_cons (ed_var 0 rfl) (ea_cons (ed_var 1 rfl) (ea_cons (ed_var 3 rfl) (ea_cons (ed_var 5 rfl) ea_nil)))) ⟨_, _, [B, M], rfl, ?_, ?_, ?_, rfl⟩ (by first | decide | simp)) (show PyData.tuple _ = dM I by rw [comB_meet, hIe])) ea_nil)))) ⟨_, _, [A, I], rfl, ?_, ?_, ?_, rfl⟩ (by first | decide | simp)) (by simp)) ?_ scN
    · exact ⟨c1, c2, by omega⟩
    · simp
    · exact two_bas hB kM
    · exact ⟨c1, c2, by omega⟩
    · simp
    · exact two_bas hA kI
    refine bd_ret (ed_eq (ed_eqD hr.units (ed_var 6 rfl) (ed_callS (np := 2) (cal_common_basis T) hr (by decide) (ea_cons (ed_var 0 rfl) (ea_cons (ed_var 1 rfl) (ea_cons (ed_eq (ed_callS (np := 2) (cal_joined_basis T) hr (by decide) (ea_cons (ed_var 0 rfl) (ea_cons (ed_var 1 rfl) (ea_cons (ed_var 2 rfl) (ea_cons (ed_var 3 rfl) ea_nil)))) ⟨_, _, [A, B], rfl, ?_, ?_, ?_, rfl⟩ (by first | decide | simp)) (show PyData.tuple _ = dM S by rw [← hSe]; simp)) (ea_cons (ed_var 5 rfl) ea_nil)))) ⟨_, _, [S, M], rfl, ?_, ?_, ?_, rfl⟩ (by first | decide | simp)) ?_ ?_) ?_) rfl
    · exact ⟨c1, c2, by omega⟩
    · simp
    · exact two_bas hA hB
    · exact ⟨c1, c2, by omega⟩
    · simp
    · exact two_bas kS kM
    · exact encM.shaped (by decide) _
    · exact encM.shaped (by decide) _
    · rw [comB_meet, ← hmod, encM.dec]; simp
end
end K86
end
section
namespace K86
open PySem PySem.Spec PyProof.Rows L2 DL WM
section
variable {P : Program} {w : World} {K : PySem.W.Frag} {mg : Str → Option Value} {base : Heap}
abbrev R_space (K : PySem.W.Frag) : RelX := fun xs r => ∃ (n m : Nat) (S : List (List Int)), xs = [.dat (.int (n : Nat)), .dat (.int (m : Nat)), .dat (dM S)] ∧ MoC n m ∧ S.length ≤ 100 ∧ (∀ v ∈ S, IsVec n m v) ∧ r = sMo K (mC K) n m (basF n m S)
theorem cal_law_space (T : Top K mg) : Cal P w K mg base 12 "_law_space" (spX K (R_space K)) := by
  obtain ⟨fd, F⟩ := T.def_ i__law_space rfl
  have sc : FnScope ["width", "size", "vectors", "found", "vector"] ["width", "size", "vectors"] (defScope s__law_space) := ⟨rfl, rfl, rfl, by decide +kernel, rfl, by decide +kernel, by decide +kernel⟩
  have scN := sc.nd
  refine ⟨_, fd, _, fnB (k := 11) F sc (fun vs H Q E h => ?_) (fun cd A outer s H vs Q E hr h => ?_), T.glo j__law_space rfl, F.kp, F.bindsN (fun _ _ _ _ _ _ us hl => match us, hl with | [_, _, _], _ => rfl)⟩
  · obtain ⟨xs, r, h1, ⟨n, m, S, rfl, _⟩, _⟩ := h
    exact slAll_len h1
  · obtain ⟨xs, r, h1, ⟨n, m, S, rfl, hc, hSl, hS, rfl⟩, k⟩ := h
    refine (?_ : RB _ H (rhoS ["width", "size", "vectors", "found", "vector"] [.dat (.int (n : Nat)), .dat (.int (m : Nat)), .dat (dM S)]) _ _) _ H (env_startS h1)
    refine rb_setX 3 (r := sMo K (mC K) n m []) (ex_cmeth T.cread T.zeroMet (fn_zero T) hr (by decide) (T.glo j_Module rfl) (eas_cons (ed_var 0 rfl) (eas_cons (ed_var 1 rfl) eas_nil)) ⟨n, m, rfl, hc, rfl⟩) ?_ scN
    refine rb_sd (P := fun _ => False) (Kn := fun ρ' => ∃ o4, ρ' = [some (.dat (.int (n : Nat))), some (.dat (.int (m : Nat))), some (.dat (dM S)), some (sMo K (mC K) n m (basF n m S)), o4]) (sd_for (items := S) (enc := fun v => dV v) (en := fun v ρ => ρ.set 4 (some (.dat (dV v)))) (js := [4]) (fun i ρ' => ∃ o4, ρ' = [some (.dat (.int (n : Nat))), some (.dat (.int (m : Nat))), some (.dat (dM S)), some (sMo K (mC K) n m (basF n m (S.take i))), o4]) rfl PassesOwn.never (it_tup (ed_var 2 rfl)) (pg_name (i := 4) scN rfl (by first | exact Or.inl rfl | exact Or.inr rfl)) ⟨none, by rw [List.take_zero, basF_self bas_nil]; rfl⟩ (fun i hi ρ' => tg_name) (fun i v ρ' hi hρ => ?_) (fun ρ' hρ => ?_)) (fun d v H' z => z.elim) (fun ρ' hK => ?_)
    · obtain ⟨o4, rfl⟩ := hρ
      have hv := hS v (List.mem_of_getElem? hi)
      have h1v : ∀ x ∈ [v], IsVec n m x := fun x hx => by rw [List.mem_singleton.mp hx]; exact hv
      have hT : ∀ x ∈ S.take i, IsVec n m x := fun x hx => hS x (List.mem_of_mem_take hx)
      have tk1 : S.take (i + 1) = S.take i ++ [v] := by rw [List.take_succ, hi]; rfl
      refine bd_setX 3 (r := sMo K (mC K) n m (basF n m (S.take (i + 1)))) (ex_eq (ex_meth (met_plus T) hr (by decide) (ex_var 3 rfl) (eas_consX (ex_mk (S := [v]) (mk_Module T) hr (by decide) (ea_cons (ed_var 0 rfl) (ea_cons (ed_var 1 rfl) (ea_cons (ed_var 4 rfl) ea_nil))) ⟨hc, by simp, h1v⟩) eas_nil) ⟨n, m, _, _, rfl, hc, (basF_ok hT).1, (basF_ok h1v).1, rfl⟩) (by rw [basF_step hT hv, tk1]; rfl)) (bd_nil ⟨_, rfl⟩) scN
    · obtain ⟨o4, rfl⟩ := hρ
      exact ⟨o4, by rw [List.take_length]⟩
    · obtain ⟨o4, rfl⟩ := hK
      exact rb_retX (ex_var 3 rfl) fun v H' e dv => k v H' e dv
abbrev R_law_spaces_right : RelF := fun ds P => ∃ (n m : Nat) (S S2 : List (List Int)), ds = [.int (n : Int), .int (m : Int), dM S, dM S2] ∧ LawC n m ∧ (S.length ≤ 100 ∧ S2.length ≤ 100) ∧ ((∀ v ∈ S, IsVec n m v) ∧ ∀ v ∈ S2, IsVec n m v) ∧ P = (· = .bool true)
theorem ed_catF {X : Cx} {F : Hp} {ρ : Rho} {e : Expr} {es : List Expr} {pos p2 : Pos} {l : Addr} {ys : List V} {ds1 ds2 : List PyData} (ha : EV X F ρ e (.ref l)) (hF : F l = some (.lst ys)) (hd : DpAll X.K F ys ds1) (hb : EA X F ρ es ds2) (h1 : ds1.length ≤ 1000 := by simp) (h2 : ds2.length ≤ 1000 := by simp) : ED X F ρ (.BinOp e .Add (.List es p2) pos) (.list (ds1 ++ ds2)) := fun σ H Q E k => by
  refine ofE (pe_op op_cat pe_w (pe_lst pa_w)) ?_
  refine ha σ H _ E fun H1 e1 => ?_
  refine hb σ H1 _ (E.mono e1) fun vs H2 e2 dvs => ⟨by rw [dpA_len dvs]; exact Nat.le_trans h2 (by decide), fun q hq => ?_⟩
  have e3 : Same H2 (upd H2 q (.lst vs)) := Same.new hq
  have eF := ((E.mono e1).mono e2).2.2
  have l1 := dpA_len hd
  have l2 := dpA_len dvs
  refine ⟨l, q, ys, vs, rfl, rfl, e3 _ _ (eF _ _ hF), upd_same, Nat.le_trans (by omega : ys.length + vs.length ≤ 2000) (by decide), fun p hp => ?_⟩
  have e4 : Same (upd H2 q (.lst vs)) (upd (upd H2 q (.lst vs)) p (.lst (ys ++ vs))) := Same.new hp
  exact k _ _ (((e1.trans e2).trans e3).trans e4) (.lst (SqL.of upd_same) (dpA_app (dpA_mono ((eF.trans e3).trans e4) hd) (dpA_mono (e3.trans e4) dvs)))
theorem cal_law_spaces_right (T : Top K mg) : Cal P w K mg base 13 "_law_spaces_right" (spR K R_law_spaces_right) := by
  obtain ⟨fd, F⟩ := T.def_ i__law_spaces_right rfl
  have sc : FnScope ["width", "size", "one", "other", "first", "second", "bases", "found", "due", "vectors"] ["width", "size", "one", "other"] (defScope s__law_spaces_right) := ⟨rfl, rfl, rfl, by decide +kernel, rfl, by decide +kernel, by decide +kernel⟩
  have scN := sc.nd
  refine calRB (k := 12) F (T.glo j__law_spaces_right rfl) sc (fun _ _ _ _ _ _ us hl => match us, hl with | [_, _, _, _], _ => rfl) (fun ds P' h => ?_) (fun cd A0 outer s H E ds P' vs hr h hds => ?_)
  · obtain ⟨n, m, S, S2, rfl, _⟩ := h
    rfl
  · obtain ⟨n, m, S, S2, rfl, hc, ⟨l1, l2⟩, ⟨hS, hS2⟩, rfl⟩ := h
    have hn : 0 < n := hc.1.1
    obtain ⟨c1, c2, c3⟩ := id hc
    obtain ⟨fdb, psb, FOb, bnb⟩ := fn_basis (P := P) (w := w) (base := base) T
    obtain ⟨fde, pse, FOe, bne⟩ := fn_eq (P := P) (w := w) (base := base) T
    have hA := (basF_ok hS).1
    have hB := (basF_ok hS2).1
    have dA := (annB_ok hn hA.1).1
    have hI := (meet_ok hn hA.1 hB.1).1
    refine (?_ : RB _ H (rhoS ["width", "size", "one", "other", "first", "second", "bases", "found", "due", "vectors"] [.dat (.int (n : Nat)), .dat (.int (m : Nat)), .dat (dM S), .dat (dM S2)]) _ _) _ H (env_startS (slAll_ds hds))
    refine rb_parX 4 5 (r1 := sMo K (mC K) n m (basF n m S)) (r2 := sMo K (mC K) n m (basF n m S2)) (ex_callX (cal_law_space T) hr (by decide) (eas_cons (ed_var 0 rfl) (eas_cons (ed_var 1 rfl) (eas_cons (ed_var 2 rfl) eas_nil))) ⟨n, m, S, rfl, hc, l1, hS, rfl⟩) (ex_callX (cal_law_space T) hr (by decide) (eas_cons (ed_var 0 rfl) (eas_cons (ed_var 1 rfl) (eas_cons (ed_var 3 rfl) eas_nil))) ⟨n, m, S2, rfl, hc, l2, hS2, rfl⟩) ?_ rfl scN
    refine rb_ad 6 (d := .list [dM (basF n m S), dM (basF n m S2)]) (ad_eq (ad_lc (own := [("vectors", 9)]) (js := [9]) rfl scN (it_tup (ed_eq (ed_tup (ea_cons (ed_var 2 rfl) (ea_cons (ed_var 3 rfl) ea_nil)) (by first | decide | simp)) (show PyData.tuple [dM S, dM S2] = .tuple (([S, S2] : List (List (List Int))).map fun D => dM D) from rfl))) (blkOk_by (N := ["width", "size", "one", "other", "first", "second", "bases", "found", "due", "vectors"]) (sc := (defScope s__law_spaces_right)) (by decide +kernel)) (fun _ _ _ _ _ => pg_name (i := 9) scN rfl (by first | exact Or.inl rfl | exact Or.inr rfl)) (by decide) (fun i hi => tg_name) (fun s H C cl fp i hi => (ed_call (cal_basis_of T) hr (by decide) (ea_cons (ed_var 0 rfl) (ea_cons (ed_var 1 rfl) (ea_cons (ed_var 9 rfl) ea_nil))) ⟨_, _, _, rfl, ?_, ?_, ?_, rfl⟩)) ?_ ?_) rfl) ?_
    · exact ⟨c1, c2, by omega⟩
    · have : ‹List (List Int)› ∈ [S, S2] := ‹_›
      simp at this
      rcases this with rfl | rfl <;> omega
    · have : ‹List (List Int)› ∈ [S, S2] := ‹_›
      simp at this
      rcases this with rfl | rfl <;> assumption
    · exact fun _ _ => imm_dM _
    · simp
    generalize hAe : basF n m S = A at *
    generalize hBe : basF n m S2 = B at *
    refine rb_set 7 (d := .list [dM A, dM (annB n m A), dM (basF n m (A ++ B)), dM (comB n m [A, B])]) (ed_lst (ea_cons (ed_moprop (ex_var 4 rfl) T.Module_c T.basisProp FOb ⟨n, m, A, rfl, rfl⟩ bnb hr (by decide)) (ea_cons (ed_moprop (ex_meth0 (met_dual T) hr (by decide) (ex_var 4 rfl) ⟨n, m, A, rfl, hc, hA, rfl⟩) T.Module_c T.basisProp FOb ⟨n, m, annB n m A, rfl, rfl⟩ bnb hr (by decide)) (ea_cons (ed_moprop (ex_meth (met_plus T) hr (by decide) (ex_var 4 rfl) (eas_consX (ex_var 5 rfl) eas_nil) ⟨n, m, A, B, rfl, hc, hA, hB, rfl⟩) T.Module_c T.basisProp FOb ⟨n, m, basF n m (A ++ B), rfl, rfl⟩ bnb hr (by decide)) (ea_cons (ed_moprop (ex_meth (met_common T) hr (by decide) (ex_var 4 rfl) (eas_consX (ex_var 5 rfl) eas_nil) ⟨n, m, A, B, rfl, hc, hA, hB, rfl⟩) T.Module_c T.basisProp FOb ⟨n, m, comB n m [A, B], rfl, rfl⟩ bnb hr (by decide)) ea_nil)))) (by first | decide | simp)) ?_ scN
    refine rb_setL 8 (ds := [dM A, dM (annB n m A), dM (basF n m (A ++ B))]) (ea_cons (ed_ixL (j := 0) (ed_var 6 rfl) ed_int rfl) (ea_cons (ed_call (cal_annihilator T) hr (by decide) (ea_cons (ed_var 0 rfl) (ea_cons (ed_var 1 rfl) (ea_cons (ed_ixL (j := 0) (ed_var 6 rfl) ed_int rfl) ea_nil))) ⟨_, _, _, rfl, ?_, ?_, rfl⟩) (ea_cons (ed_eq (ed_callS (np := 2) (cal_joined_basis T) hr (by decide) (ea_cons (ed_var 0 rfl) (ea_cons (ed_var 1 rfl) (ea_cons (ed_ixL (j := 0) (ed_var 6 rfl) ed_int rfl) (ea_cons (ed_ixL (j := 1) (ed_var 6 rfl) ed_int rfl) ea_nil)))) ⟨_, _, [A, B], rfl, ?_, ?_, ?_, rfl⟩ (by first | decide | simp)) (by simp)) ea_nil))) (by simp) (fun H1 dl ys e1 hdl hdl1 dys => ?_) scN
    · exact ⟨c1, c2, by omega⟩
    · exact hA
    · exact ⟨c1, c2, by omega⟩
    · simp
    · exact two_bas hA hB
    have encLMs := encM.lst
    refine rb_skip (td_neD hr.units (ed_var 7 rfl) (ed_catF (ev_var 8 rfl) hdl1 dys (ea_cons (ed_callS (np := 2) (cal_common_basis T) hr (by decide) (ea_cons (ed_var 0 rfl) (ea_cons (ed_var 1 rfl) (ea_cons (ed_ixL (j := 0) (ed_var 6 rfl) ed_int rfl) (ea_cons (ed_ixL (j := 1) (ed_var 6 rfl) ed_int rfl) ea_nil)))) ⟨_, _, [A, B], rfl, ?_, ?_, ?_, rfl⟩ (by first | decide | simp)) ea_nil)) ?_ ?_) ?_ ?_
    · exact ⟨c1, c2, by omega⟩
    · simp
    · exact two_bas hA hB
    · exact encLMs.shaped (by decide) [A, annB n m A, basF n m (A ++ B), comB n m [A, B]]
    · exact encLMs.shaped (by decide) [A, annB n m A, basF n m (A ++ B), comB n m [A, B]]
    · show (!PyData.eqv (.list (([A, annB n m A, basF n m (A ++ B), comB n m [A, B]] : List (List (List Int))).map fun D => dM D)) (.list (([A, annB n m A, basF n m (A ++ B), comB n m [A, B]] : List (List (List Int))).map fun D => dM D))) = false
      rw [encLMs.dec]; simp
    refine rb_skip (td_w (tw_or (td_moNe FOe T.ownQ bne hr (by decide) (ex_meth0 (met_dual T) hr (by decide) (ex_meth0 (met_dual T) hr (by decide) (ex_var 4 rfl) ⟨n, m, A, rfl, hc, hA, rfl⟩) ⟨n, m, annB n m A, rfl, hc, dA, rfl⟩) (ex_var 4 rfl) ⟨n, m, _, A, rfl, rfl⟩) fun hb => (tw_or1 (td_neB (ed_moEq FOe T.ownQ bne hr (by decide) (ex_var 4 rfl) (ex_var 5 rfl) ⟨n, m, A, B, rfl, rfl⟩) (ed_eqD hr.units (ed_ixL (j := 0) (ed_var 6 rfl) ed_int rfl) (ed_ixL (j := 1) (ed_var 6 rfl) ed_int rfl) ?_ ?_))))) ?_ ?_
    · exact encM.shaped (by decide) _
    · exact encM.shaped (by decide) _
    · rw [annB_self hn hA, encM.dec]; simp
    have hU : ∀ v ∈ (List.range m).map fun i => unitV m i, IsVec n m v := fun v hv => by obtain ⟨i, _, rfl⟩ := List.mem_map.mp hv; exact isVec_unit hn
    have hW := (basF_ok hU).1
    refine rb_ret (d := .bool true) (ed_eq (ed_moEq FOe T.ownQ bne hr (by decide) (ex_meth0 (met_dual T) hr (by decide) (ex_cmeth T.cread T.wholeMet (fn_whole T) hr (by decide) (T.glo j_Module rfl) (eas_cons (ed_var 0 rfl) (eas_cons (ed_var 1 rfl) eas_nil)) ⟨n, m, rfl, hc, rfl⟩) ⟨n, m, _, rfl, hc, hW, rfl⟩) (ex_cmeth T.cread T.zeroMet (fn_zero T) hr (by decide) (T.glo j_Module rfl) (eas_cons (ed_var 0 rfl) (eas_cons (ed_var 1 rfl) eas_nil)) ⟨n, m, rfl, hc, rfl⟩) ⟨n, m, _, _, rfl, rfl⟩) (by rw [ann_whole hn]; simp)) fun v9 H9 e9 dv9 => ⟨_, rfl, e1.trans e9, dv9⟩
end
end K86
end
section
namespace K86
open PySem PySem.Spec PyProof.Rows L2 DL WM
/-- the body of a loop -/
def forB : Stmt → List Stmt
  | .For _ _ b _ _ => b
  | _ => []
section
variable {P : Program} {w : World} {K : PySem.W.Frag} {mg : Str → Option Value} {base : Heap}
abbrev R_law_solved_right : RelF := fun ds P => ∃ n m : Nat, ds = [.int (n : Int), .int (m : Int)] ∧ LawC n m ∧ P = (· = .bool true)
theorem cal_law_solved_right (T : Top K mg) : Cal P w K mg base 11 "_law_solved_right" (spSt K 700000 3000 R_law_solved_right) := by
  obtain ⟨fd, F⟩ := T.def_ i__law_solved_right rfl
  have sc : FnScope ["stream", "width", "size", "vectors", "seed", "many", "words", "values", "columns", "relations", "found", "told", "basis", "dual", "target", "vector", "at"] ["stream", "width", "size"] (defScope s__law_solved_right) := ⟨rfl, rfl, rfl, by decide +kernel, rfl, by decide +kernel, by decide +kernel⟩
  have scN := sc.nd
  refine ⟨_, fd, _, fnB (k := 10) F sc (fun vs H Q E h => ?_) (fun cd A0 outer s H vs Q E hr h => ?_), T.glo j__law_solved_right rfl, F.kp, F.bindsN (fun _ _ _ _ _ _ us hl => match us, hl with | [_, _, _], _ => rfl)⟩
  · obtain ⟨a, vs', ds, P', N, rfl, h1, ⟨n, m, rfl, _⟩, _⟩ := h
    rw [List.length_cons, dpA_len h1]; rfl
  · obtain ⟨a, vs', ds, P', N, rfl, h1, ⟨n, m, rfl, ⟨c1, c2, c3⟩, rfl⟩, hst, hN, K1⟩ := h
    have hn : 0 < n := c1.1
    have n16 := pow16 c1.2
    have im0 : immRX K (rhoS ["stream", "width", "size", "vectors", "seed", "many", "words", "values", "columns", "relations", "found", "told", "basis", "dual", "target", "vector", "at"] [.val (.ref a), .dat (.int (n : Nat)), .dat (.int (m : Nat))]) := immRX_of (immR_S (immR_cons rfl (immR_cons rfl (immR_cons rfl immR_nil))))
    refine (?_ : RB _ H (rhoS ["stream", "width", "size", "vectors", "seed", "many", "words", "values", "columns", "relations", "found", "told", "basis", "dual", "target", "vector", "at"] [.val (.ref a), .dat (.int (n : Nat)), .dat (.int (m : Nat))]) _ _) _ H (env_startS (.cons rfl (slAll_ds h1)))
    refine rb_rs hst im0 ?_
    have imT : ∀ d, (∃ ds, d = PyData.tuple ds ∧ LP [fun d => ∃ v, d = dV v ∧ IsVec n m v] ds) → imm d = true := fun d ⟨ds, e, d0, r, e2, ⟨v, hv, _⟩, e3⟩ => by
      subst e; subst e2; subst hv
      rw [show r = [] from e3]
      exact imm_dM [v]
    refine rs_set 3 (P := fun d => ∃ S, d = dM S ∧ 1 ≤ S.length ∧ S.length ≤ 4 ∧ ∀ v ∈ S, IsVec n m v) (N' := N + 1100) (se_imp (se_cat (se_tup (sea_cons (se_call 0 (cal_law_row T) hr (by decide) rfl (ea_cons (ed_var 1 rfl) (ea_cons (ed_var 2 rfl) ea_nil)) ⟨_, _, rfl, ⟨c1, c3⟩, rfl⟩ (by omega)) sea_nil imV) (by simp)) (se_call 0 (cal_law_vectors T) hr (by decide) rfl (ea_cons (ed_var 1 rfl) (ea_cons (ed_var 2 rfl) (ea_cons ed_int ea_nil))) ⟨n, m, 3, rfl, ⟨c1, c3, by decide⟩, rfl⟩ (by omega)) (fun d ⟨ds, e, hl⟩ => ⟨ds, e, by rw [hl.len]; simp⟩) (fun d ⟨S, e, hl, _⟩ => ⟨_, e, by simp; omega⟩) imT) (fun d ⟨ds, ds', ⟨ds1, e1, d0, r, e2, ⟨v, hv, hv2⟩, e3⟩, ⟨S, e4, hl, hS⟩, e5⟩ => ?_) (by omega)) imM (fun d ⟨S, hd, l1, l2, hS⟩ => ?_) scN
    · injection e1 with e1
      injection e4 with e4
      subst e1 hv e4
      rw [show r = [] from e3] at e2
      subst e2
      refine ⟨v :: S, e5, by simp, by simp; omega, fun x hx => ?_⟩
      rcases List.mem_cons.mp hx with q | q
      · subst q; exact hv2
      · exact hS x q
    subst hd
    refine rs_asg2 4 5 (P1 := fun d => ∃ v, d = dV v ∧ IsVec n m v) (P2 := (· = .int (S.length : Nat))) (se_call 0 (cal_law_row T) hr (by decide) rfl (ea_cons (ed_var 1 rfl) (ea_cons (ed_var 2 rfl) ea_nil)) ⟨_, _, rfl, ⟨c1, c3⟩, rfl⟩ (by omega)) (se_ed (ed_eq (ed_lenT T.f_len (ed_var 3 rfl)) (by rw [List.length_map]))) imV imE (fun d1 d2 ⟨sd, e1, hsd⟩ e2 => ?_) rfl scN
    subst e1
    subst e2
    refine rs_set 6 (P := fun d => ∃ v, d = dV v ∧ IsVec n S.length v) (se_call 0 (cal_law_row T) hr (by decide) rfl (ea_cons (ed_var 1 rfl) (ea_cons (ed_var 5 rfl) ea_nil)) ⟨_, _, rfl, ⟨c1, by omega⟩, rfl⟩ (by omega)) imV (fun d ⟨ws, hd, hws⟩ => ?_) scN
    subst hd
    refine fun σ4 H4 E4 => (rb_bd (Kn := fun _ => False) (P := (· = .bool true)) ?_ (fun d v H5 hd e5 dv => K1 d v H5 hd (fun b o hb nb => e5 _ _ (E4.env.2.2 _ _ (by rw [hole_ne nb]; exact hb))) ((E4.str.mono (by omega)).same e5) dv) (fun _ _ _ z => z.elim) : RB _ H4 _ _ _) σ4 H4 E4.env.anchor
    clear E4 K1 hst im0 imT
    have hvals : ∀ v ∈ ([ws, S.map fun v => dotV v sd % 2 ^ n] : List (List Int)), IsVec n S.length v := fun v hv => by
      simp at hv
      rcases hv with rfl | rfl
      · exact hws
      · refine ⟨by simp, fun x hx => ?_⟩
        obtain ⟨y, _, rfl⟩ := List.mem_map.mp hx
        exact ⟨Int.emod_nonneg _ (Int.ne_of_gt (pow_pos2 n)), Int.emod_lt_of_pos _ (pow_pos2 n)⟩
    have hcols := isVec_cols (n := m) hS
    refine bd_for (items := ([ws, S.map fun v => dotV v sd % 2 ^ n] : List (List Int))) (enc := fun v => dV v) (en := fun v ρ => ρ.set 7 (some (.dat (dV v)))) (js := [7]) (fun i ρ' => ∃ o7 o8 o9 o10 o11, ρ' = [some (.val (.ref a)), some (.dat (.int (n : Nat))), some (.dat (.int (m : Nat))), some (.dat (dM S)), some (.dat (dV sd)), some (.dat (.int (S.length : Nat))), some (.dat (dV ws)), o7, o8, o9, o10, o11, none, none, none, none, none]) rfl PassesOwn.never (it_tup (ed_eq (ed_tup (ea_cons (ed_var 6 rfl) (ea_cons (ed_eq (ed_tupleL T.f_tuple (ed_lc (own := [("vector", 15)]) (js := [15]) rfl scN (it_tup (ed_var 3 rfl)) (blkOk_by (N := ["stream", "width", "size", "vectors", "seed", "many", "words", "values", "columns", "relations", "found", "told", "basis", "dual", "target", "vector", "at"]) (sc := (defScope s__law_solved_right)) (by decide +kernel)) (fun _ _ _ _ _ => pg_name (i := 15) scN rfl (by first | exact Or.inl rfl | exact Or.inr rfl)) (by decide) (fun i hi => tg_name) (fun s H C cl fp i hi => (ed_call (cal_law_dot T) hr (by decide) (ea_cons (ed_var 1 rfl) (ea_cons (ed_var 15 rfl) (ea_cons (ed_var 4 rfl) ea_nil))) ⟨_, m, _, _, rfl, ?_, ?_, rfl⟩)) ?_ ?_)) (show PyData.tuple _ = dV (S.map fun v => dotV v sd % 2 ^ n) by simp)) ea_nil)) (by first | decide | simp)) (show PyData.tuple [dV ws, dV (S.map fun v => dotV v sd % 2 ^ n)] = .tuple (([ws, S.map fun v => dotV v sd % 2 ^ n] : List (List Int)).map fun v => dV v) from rfl))) (pg_name (i := 7) scN rfl (by first | exact Or.inl rfl | exact Or.inr rfl)) ⟨none, none, none, none, none, rfl⟩ (fun i hi ρ' => tg_name) (fun i v ρ' hi hρ => ?_) (fun ρ' hρ => ?_)
    · exact ⟨c1.2, by omega⟩
    · exact ⟨hS _ ‹_›, hsd⟩
    · exact fun _ _ => rfl
    · omega
    · obtain ⟨o7, o8, o9, o10, o11, rfl⟩ := hρ
      have hv := hvals v (List.mem_of_getElem? hi)
      refine bd_set 8 (d := dM (colsM m S)) (ed_eq (ed_tupleL T.f_tuple (ed_lc (own := [("at", 16)]) (js := [16]) rfl scN (it_rng1 T.f_range (ed_var 2 rfl) ?_) (blkOk_by (N := ["stream", "width", "size", "vectors", "seed", "many", "words", "values", "columns", "relations", "found", "told", "basis", "dual", "target", "vector", "at"]) (sc := (defScope s__law_solved_right)) (by decide +kernel)) (fun _ _ _ _ _ => pg_name (i := 16) scN rfl (by first | exact Or.inl rfl | exact Or.inr rfl)) (by decide) (fun i hi => tg_name) (fun s H C cl fp i hi => (ed_tupleL T.f_tuple (ed_lc (own := [("vector", 15)]) (js := [15]) rfl scN (it_tup (ed_var 3 rfl)) (blkOk_by (N := ["stream", "width", "size", "vectors", "seed", "many", "words", "values", "columns", "relations", "found", "told", "basis", "dual", "target", "vector", "at"]) (sc := (relabel (lcSc (callA 0 (retE ((forB ((defBody s__law_solved_right).getD 3 (.Pass ⟨0, 0, 0, 0⟩))).getD 0 (.Pass ⟨0, 0, 0, 0⟩))))) (envOfC "" (defScope s__law_solved_right) 0 0 .none))) (by decide +kernel)) (fun _ _ _ _ _ => pg_name (i := 15) scN rfl (by first | exact Or.inl rfl | exact Or.inr rfl)) (by decide) (fun i hi => tg_name) (fun s H C cl fp i hi => (ed_ixV (ed_var 15 rfl) (ed_var 16 rfl) ?_)) ?_ ?_))) ?_ ?_)) ?_) ?_ scN
      · omega
      · rw [(hS _ ‹_›).1]; exact List.mem_range.mp ‹_›
      · exact fun _ _ => rfl
      · omega
      · exact fun _ _ => imm_tup fun d hd => by obtain ⟨r, _, rfl⟩ := List.mem_map.mp hd; rfl
      · simp; omega
      · simp [colsM, dM, dV]
      have hC := basF_ok hcols
      have hR := (annB_ok hn hC.1.1).1
      have hRl := bas_len hR
      refine bd_set 9 (d := dM (annB n S.length (basF n S.length (colsM m S)))) (ed_call (cal_annihilator T) hr (by decide) (ea_cons (ed_var 1 rfl) (ea_cons (ed_var 5 rfl) (ea_cons (ed_call (cal_basis_of T) hr (by decide) (ea_cons (ed_var 1 rfl) (ea_cons (ed_var 5 rfl) (ea_cons (ed_var 8 rfl) ea_nil))) ⟨_, _, _, rfl, ?_, ?_, ?_, rfl⟩) ea_nil))) ⟨_, _, _, rfl, ?_, ?_, rfl⟩) ?_ scN
      · exact ⟨c1, by omega, by omega⟩
      · rw [colsM_len]; omega
      · exact hcols
      · exact ⟨c1, by omega, by omega⟩
      · exact hC.1
      have hz := isZ_ann hn hcols hv
      refine bd_setR 10 (er_call (cal_solution T) hr (by decide) (ea_cons (ed_var 1 rfl) (ea_cons (ed_var 2 rfl) (ea_cons (ed_var 3 rfl) (ea_cons (ed_var 7 rfl) ea_nil)))) ⟨n, m, S, v, rfl, ⟨c1, c2, by omega, by omega⟩, hS, hv, rfl⟩) (fun d hd => ?_) scN
      have v1 : ∀ x ∈ [v], IsVec n S.length x := fun x hx => by rw [List.mem_singleton.mp hx]; exact hv
      rcases hd with ⟨rfl, hno⟩ | ⟨x, rfl, hx, hcb⟩
      · have hzf : isZ n (annB n S.length (basF n S.length (colsM m S))) [v] = false := by
          cases q : isZ n (annB n S.length (basF n S.length (colsM m S))) [v] with
          | false => rfl
          | true => exact absurd (hz.mp q) hno
        refine bd_skip (td_eqB (ed_isN (ed_var 10 rfl)) (ed_call (cal_law_is_zero T) hr (by decide) (ea_cons (ed_var 1 rfl) (ea_cons (ed_var 9 rfl) (ea_cons (ed_eq (ed_tup (ea_cons (ed_var 7 rfl) ea_nil) (by first | decide | simp)) (show PyData.tuple [dV v] = dM [v] from rfl)) ea_nil))) ⟨_, S.length, _, _, rfl, ?_, ?_, rfl⟩)) ?_ ?_
        · exact ⟨c1.2, by omega, by omega, by simp⟩
        · exact ⟨hR.1, v1⟩
        · rw [hzf]; rfl
        exact bd_skip (td_notN (d := .none) (ed_var 10 rfl)) rfl (bd_nil ⟨_, _, _, _, _, rfl⟩)
      · have hzt : isZ n (annB n S.length (basF n S.length (colsM m S))) [v] = true := hz.mpr ((comb_sp (M := 2 ^ n) (x := ix x)).congr fun i hi => dv1 (-1) (hcb i hi) (by grind))
        refine bd_skip (td_eqB (ed_isN (ed_var 10 rfl)) (ed_call (cal_law_is_zero T) hr (by decide) (ea_cons (ed_var 1 rfl) (ea_cons (ed_var 9 rfl) (ea_cons (ed_eq (ed_tup (ea_cons (ed_var 7 rfl) ea_nil) (by first | decide | simp)) (show PyData.tuple [dV v] = dM [v] from rfl)) ea_nil))) ⟨_, S.length, _, _, rfl, ?_, ?_, rfl⟩)) ?_ ?_
        · exact ⟨c1.2, by omega, by omega, by simp⟩
        · exact ⟨hR.1, v1⟩
        · rw [hzt]; rfl
        have hxm : IsVec n m x := by have := hx; rw [colsM_len] at this; exact this
        refine bd_if (td_notN (d := dV x) (ed_var 10 rfl)) (fun _ => ?_) (fun z => by cases z)
        refine bd_set 11 (d := dV (S.map fun y => dotV y x % 2 ^ n)) (ed_eq (ed_tupleL T.f_tuple (ed_lc (own := [("vector", 15)]) (js := [15]) rfl scN (it_tup (ed_var 3 rfl)) (blkOk_by (N := ["stream", "width", "size", "vectors", "seed", "many", "words", "values", "columns", "relations", "found", "told", "basis", "dual", "target", "vector", "at"]) (sc := (defScope s__law_solved_right)) (by decide +kernel)) (fun _ _ _ _ _ => pg_name (i := 15) scN rfl (by first | exact Or.inl rfl | exact Or.inr rfl)) (by decide) (fun i hi => tg_name) (fun s H C cl fp i hi => (ed_call (cal_law_dot T) hr (by decide) (ea_cons (ed_var 1 rfl) (ea_cons (ed_var 15 rfl) (ea_cons (ed_var 10 rfl) ea_nil))) ⟨_, m, _, _, rfl, ?_, ?_, rfl⟩)) ?_ ?_)) (show PyData.tuple _ = dV (S.map fun y => dotV y x % 2 ^ n) by simp)) ?_ scN
        · exact ⟨c1.2, by omega⟩
        · exact ⟨hS _ ‹_›, hxm⟩
        · exact fun _ _ => rfl
        · omega
        have told : (S.map fun y => dotV y x % 2 ^ n) = v := by
          refine vec_eq (w := n) (n := S.length) ⟨by simp, fun y hy => ?_⟩ hv fun i hi => ?_
          · obtain ⟨z, _, rfl⟩ := List.mem_map.mp hy
            exact ⟨Int.emod_nonneg _ (Int.ne_of_gt (pow_pos2 n)), Int.emod_lt_of_pos _ (pow_pos2 n)⟩
          · have e0 : S.getD i [] = S[i] := by rw [List.getD_eq_getElem?_getD, List.getElem?_eq_getElem hi]; rfl
            have e1 : ix (S.map fun y => dotV y x % 2 ^ n) i = dotV (S.getD i []) x % 2 ^ n := by
              unfold ix
              rw [List.getD_eq_getElem?_getD, List.getElem?_map, List.getElem?_eq_getElem hi, e0]; rfl
            have hm := (hS (S.getD i []) (by rw [e0]; exact List.getElem_mem hi)).1
            have e2 := comb_cols hi (ix x) m
            have e3 := hcb i hi
            rw [e2] at e3
            rw [e1, dotV_eq hm hxm.1, dot_comm]
            have e4 := emod_sub (a := dot m (ix x) (ix (S.getD i []))) (M := 2 ^ n)
            exact dv2 1 1 e4 e3 (by grind)
        refine bd_skip (td_neD hr.units (ed_var 11 rfl) (ed_var 7 rfl) ?_ ?_) ?_ (bd_nil (bd_nil ⟨_, _, _, _, _, rfl⟩))
        · exact encV.shaped (by decide) _
        · exact encV.shaped (by decide) _
        · rw [told, encV.dec]; simp
    · obtain ⟨o7, o8, o9, o10, o11, rfl⟩ := hρ
      have hB := basF_ok hS
      have hD := (annB_ok hn hB.1.1).1
      have hDl := bas_len hD
      refine bd_set 12 (d := dM (basF n m S)) (ed_call (cal_basis_of T) hr (by decide) (ea_cons (ed_var 1 rfl) (ea_cons (ed_var 2 rfl) (ea_cons (ed_var 3 rfl) ea_nil))) ⟨_, _, _, rfl, ?_, ?_, ?_, rfl⟩) ?_ scN
      · exact ⟨c1, c2, by omega⟩
      · omega
      · exact hS
      refine bd_set 13 (d := dM (annB n m (basF n m S))) (ed_call (cal_annihilator T) hr (by decide) (ea_cons (ed_var 1 rfl) (ea_cons (ed_var 2 rfl) (ea_cons (ed_var 12 rfl) ea_nil))) ⟨_, _, _, rfl, ?_, ?_, rfl⟩) ?_ scN
      · exact ⟨c1, c2, by omega⟩
      · exact hB.1
      have hl := lsum_ok (n := n) (S := S) (ws := ws) (fun v hv => (hS v hv).1) hws.1
      have htg : ∀ v ∈ ([sd, lsum n m S ws] : List (List Int)), IsVec n m v := fun v hv => by
        simp at hv
        rcases hv with rfl | rfl
        · exact hsd
        · exact hl.1
      refine bd_for (items := ([sd, lsum n m S ws] : List (List Int))) (enc := fun v => dV v) (en := fun v ρ => ρ.set 14 (some (.dat (dV v)))) (js := [14]) (fun i ρ' => ∃ o10 o14, ρ' = [some (.val (.ref a)), some (.dat (.int (n : Nat))), some (.dat (.int (m : Nat))), some (.dat (dM S)), some (.dat (dV sd)), some (.dat (.int (S.length : Nat))), some (.dat (dV ws)), o7, o8, o9, o10, o11, some (.dat (dM (basF n m S))), some (.dat (dM (annB n m (basF n m S)))), o14, none, none]) rfl PassesOwn.never (it_tup (ed_eq (ed_tup (ea_cons (ed_var 4 rfl) (ea_cons (ed_call (cal_law_sum T) hr (by decide) (ea_cons (ed_var 1 rfl) (ea_cons (ed_var 2 rfl) (ea_cons (ed_var 3 rfl) (ea_cons (ed_var 6 rfl) ea_nil)))) ⟨_, _, _, _, rfl, ?_, ?_, ?_, rfl⟩) ea_nil)) (by first | decide | simp)) (show PyData.tuple [dV sd, dV (lsum n m S ws)] = .tuple (([sd, lsum n m S ws] : List (List Int)).map fun v => dV v) from rfl))) (pg_name (i := 14) scN rfl (by first | exact Or.inl rfl | exact Or.inr rfl)) ⟨o10, none, rfl⟩ (fun i hi ρ' => tg_name) (fun i v ρ' hi hρ => ?_) (fun ρ' hρ => ?_)
      · exact ⟨c1.2, by omega⟩
      · exact hS
      · exact fun x hx => hws.2 x hx
      · obtain ⟨o10, o14, rfl⟩ := hρ
        have hv := htg v (List.mem_of_getElem? hi)
        have hz := isZ_ann hn hS hv
        have hin := inB_iff hB.1.2 hB.1.1 hv
        refine bd_setR 10 (er_call (cal_coordinates T) hr (by decide) (ea_cons (ed_var 1 rfl) (ea_cons (ed_var 2 rfl) (ea_cons (ed_var 3 rfl) (ea_cons (ed_var 14 rfl) ea_nil)))) ⟨n, m, S, v, rfl, ⟨c1, ⟨c2, by omega⟩, by omega, by omega⟩, hS, hv, rfl⟩) (fun d hd => ?_) scN
        have v1 : ∀ x ∈ [v], IsVec n m x := fun x hx => by rw [List.mem_singleton.mp hx]; exact hv
        rcases hd with ⟨rfl, hno⟩ | ⟨x, rfl, hx, hcb⟩
        · have hzf : isZ n (annB n m (basF n m S)) [v] = false := by
            cases q : isZ n (annB n m (basF n m S)) [v] with
            | false => rfl
            | true => exact absurd (hz.mp q) hno
          have hif : inB n (basF n m S) v = false := by
            cases q : inB n (basF n m S) v with
            | false => rfl
            | true => exact absurd ((hB.2 _).mp (hin.mp q)) hno
          refine bd_skip (td_eqB (ed_isN (ed_var 10 rfl)) (ed_call (cal_law_is_zero T) hr (by decide) (ea_cons (ed_var 1 rfl) (ea_cons (ed_var 13 rfl) (ea_cons (ed_eq (ed_tup (ea_cons (ed_var 14 rfl) ea_nil) (by first | decide | simp)) (show PyData.tuple [dV v] = dM [v] from rfl)) ea_nil))) ⟨_, m, _, _, rfl, ?_, ?_, rfl⟩)) ?_ ?_
          · exact ⟨c1.2, by omega, by omega, by simp⟩
          · exact ⟨hD.1, v1⟩
          · rw [hzf]; rfl
          refine bd_skip (td_neB (ed_call (cal_contains T) hr (by decide) (ea_cons (ed_var 1 rfl) (ea_cons (ed_var 2 rfl) (ea_cons (ed_var 12 rfl) (ea_cons (ed_var 14 rfl) ea_nil)))) ⟨_, _, _, _, rfl, ?_, ?_, ?_, rfl⟩) (ed_notN (ed_var 10 rfl))) ?_ ?_
          · exact ⟨c1, c2, by omega⟩
          · exact hB.1
          · exact hv
          · rw [hif]; rfl
          exact bd_skip (td_w (tw_and (j := false) (td_notN (d := .none) (ed_var 10 rfl)) fun hb => by cases hb)) rfl (bd_nil ⟨_, _, rfl⟩)
        · have hsp : SpB n m S (ix v) := (comb_sp (M := 2 ^ n) (x := ix x)).congr fun i hi => dv1 (-1) (hcb i hi) (by grind)
          have hzt := hz.mpr hsp
          have hit := hin.mpr ((hB.2 _).mpr hsp)
          refine bd_skip (td_eqB (ed_isN (ed_var 10 rfl)) (ed_call (cal_law_is_zero T) hr (by decide) (ea_cons (ed_var 1 rfl) (ea_cons (ed_var 13 rfl) (ea_cons (ed_eq (ed_tup (ea_cons (ed_var 14 rfl) ea_nil) (by first | decide | simp)) (show PyData.tuple [dV v] = dM [v] from rfl)) ea_nil))) ⟨_, m, _, _, rfl, ?_, ?_, rfl⟩)) ?_ ?_
          · exact ⟨c1.2, by omega, by omega, by simp⟩
          · exact ⟨hD.1, v1⟩
          · rw [hzt]; rfl
          refine bd_skip (td_neB (ed_call (cal_contains T) hr (by decide) (ea_cons (ed_var 1 rfl) (ea_cons (ed_var 2 rfl) (ea_cons (ed_var 12 rfl) (ea_cons (ed_var 14 rfl) ea_nil)))) ⟨_, _, _, _, rfl, ?_, ?_, ?_, rfl⟩) (ed_notN (ed_var 10 rfl))) ?_ ?_
          · exact ⟨c1, c2, by omega⟩
          · exact hB.1
          · exact hv
          · rw [hit]; rfl
          have hl2 := lsum_ok (n := n) (S := S) (ws := x) (fun v hv => (hS v hv).1) hx.1
          have eq2 : lsum n m S x = v := vec_eq hl2.1 hv fun i hi => dv2 1 1 (hl2.2 i hi) (hcb i hi) (by grind)
          refine bd_skip (td_w (tw_and (td_notN (d := dV x) (ed_var 10 rfl)) fun hb => (tw_and1 (td_neD hr.units (ed_call (cal_law_sum T) hr (by decide) (ea_cons (ed_var 1 rfl) (ea_cons (ed_var 2 rfl) (ea_cons (ed_var 3 rfl) (ea_cons (ed_var 10 rfl) ea_nil)))) ⟨_, _, _, _, rfl, ?_, ?_, ?_, rfl⟩) (ed_var 14 rfl) ?_ ?_)))) ?_ (bd_nil ⟨_, _, rfl⟩)
          · exact ⟨c1.2, by omega⟩
          · exact hS
          · exact fun y hy => hx.2 y hy
          · exact encV.shaped (by decide) _
          · exact encV.shaped (by decide) _
          · rw [eq2, encV.dec]; simp
      · obtain ⟨o10, o14, rfl⟩ := hρ
        exact bd_ret ed_bl rfl
end
end K86
end
section
namespace DL
open PySem PySem.Spec PyProof.Rows L2 WM RM
/-! ### exact tuples of ints; dicts whose keys are such tuples -/
def XV (ns : List Int) : Hp → V → Prop := fun H v => ∃ a, v = .ref a ∧ H a = some (.tup (ns.map V.int))
theorem xv_stb {ns : List Int} : Stb (XV ns) := fun H H' v ⟨a, e1, e2⟩ e => ⟨a, e1, e _ _ e2⟩
theorem xv_dp {K : PySem.W.Frag} {H : Hp} {v : V} {ns : List Int} (h : XV ns H v) : Dp K H v (dV ns) := by
  obtain ⟨a, rfl, h⟩ := h
  exact .tup (SqT.of h) (ints_dpA ns)
abbrev sXV (ns : List Int) : Slot := .pr (XV ns)
abbrev kVs (ns : List Int) : List Key := ns.map Sum.inl
theorem kVs_kV (ns : List Int) : (kVs ns).map kV = ns.map V.int := by rw [List.map_map]; rfl
theorem kVs_inj {a b : List Int} (h : kVs a = kVs b) : a = b := (List.map_inj_right fun x y e => Sum.inl.inj e).mp h
/-- the dict at q: its keys are the tuples of L, in order -/
def DK (H : Hp) (q : Addr) (L : List (List Int)) : Prop := ∃ kvs : List (List Key × V), H q = some (.dT kvs) ∧ kvs.map (·.1) = L.map kVs
def addL (L : List (List Int)) (v : List Int) : List (List Int) := if v ∈ L then L else L ++ [v]
theorem keys_put {kvs : List (List Key × V)} {L : List (List Int)} (h : kvs.map (·.1) = L.map kVs) (ns : List Int) (x : V) : (putK kvs (kVs ns) x).map (·.1) = (addL L ns).map kVs := by
  have e : (kvs.any fun kv => decide (kv.1 = kVs ns)) = decide (ns ∈ L) := by
    rw [Bool.eq_iff_iff, List.any_eq_true, decide_eq_true_iff]
    constructor
    · rintro ⟨kv, hm, hk⟩
      have : kv.1 ∈ L.map kVs := by rw [← h]; exact List.mem_map.mpr ⟨kv, hm, rfl⟩
      obtain ⟨v, hv, e⟩ := List.mem_map.mp this
      rw [decide_eq_true_iff] at hk
      rw [hk] at e
      rw [← kVs_inj e]; exact hv
    · intro hm
      have : kVs ns ∈ kvs.map (·.1) := by rw [h]; exact List.mem_map.mpr ⟨ns, hm, rfl⟩
      obtain ⟨kv, hv, e⟩ := List.mem_map.mp this
      exact ⟨kv, hv, by simpa using e⟩
  unfold putK addL
  rw [e]
  by_cases q : ns ∈ L
  · rw [if_pos (by simpa using q), if_pos q, List.map_map, ← h]
    refine List.map_congr_left fun kv _ => ?_
    show (if kv.1 = kVs ns then (kv.1, x) else kv).1 = kv.1
    split <;> rfl
  · rw [if_neg (by simpa using q), if_neg q, List.map_append, List.map_append, h]
    rfl
section
variable {X : Cx} {F : Hp} {ρ : Rho} {a b c e f o tg ve : Expr} {es : List Expr} {rest sts : List Stmt} {pos p2 p apos pos' tpos : Pos} {d d1 d2 d3 : PyData} {ds : List PyData} {x : Str} {v u : V} {D : Ends} {ns : List Int} {q l : Addr} {L : List (List Int)}
theorem ed_xv (h : EX X F ρ e (sXV ns)) : ED X F ρ e (dV ns) := fun σ H Q E k => h σ H Q E fun v H' e1 dv => k v H' e1 (xv_dp dv.p)
theorem ex_tup1 {i : Int} {j : Nat} (h : ED X F ρ e (.int i)) (hs : starEach [e] X.env = (false, eval e X.env) :: starEach [] X.env := by rfl) : EX X F ρ (.Tuple [e] j pos) (sXV [i]) := fun σ H Q E k => by
  refine ofE (pe_tup pa_w) ?_
  refine ea_cons h ea_nil hs σ H _ E fun vs H1 e1 dvs => ?_
  obtain ⟨v, rfl, dv⟩ := dpA1 dvs
  rw [dp_int dv]
  exact ⟨by simp [sizeLine_eq], fun p hp => k _ _ (e1.trans (Same.new hp)) (xv_stb.ok ⟨p, rfl, upd_same⟩)⟩
theorem ex_rep {i : Int} {k : Nat} (ha : EX X F ρ a (sXV [i])) (hb : ED X F ρ b (.int (k : Int))) (hk : 1 ≤ k ∧ k ≤ 1000) : EX X F ρ (.BinOp a .Mult b pos) (sXV (List.replicate k i)) := fun σ H Q E kk => by
  refine ofE (pe_op op_repT12 pe_w pe_w) ?_
  refine ha σ H _ E fun x H1 e1 dx => ?_
  refine hb σ H1 _ (E.mono e1) fun y H2 e2 dy => ?_
  obtain ⟨l, rfl, hl⟩ := (dx.mono e2).p
  have hl' : H2 l = some (.tup [V.int i]) := hl
  by_cases h1 : k = 1
  · subst h1
    exact .inl ⟨l, _, rfl, dp_int dy, SqT.of hl', kk _ _ (e1.trans e2) (xv_stb.ok ⟨l, rfl, hl'⟩)⟩
  · refine .inr ⟨l, _, _, rfl, dp_int dy, SqT.of hl', by simp, by omega, by omega, by simp, fun p hp => kk _ _ ((e1.trans e2).trans (Same.new hp)) (xv_stb.ok ⟨p, rfl, ?_⟩)⟩
    have e : (List.replicate (k : Int).toNat [V.int i]).flatten = (List.replicate k i).map V.int := by simp
    rw [e]
    exact upd_same
theorem ex_tupleX (hm : X.mg "tuple" = none) (h : ED X F ρ e (.list (ns.map .int))) (hg : Gl X "tuple" := by rfl) (he : starEach [e] X.env = (false, eval e X.env) :: starEach [] X.env := by rfl) : EX X F ρ (.Call (.Name "tuple" p) [e] [] pos) (sXV ns) := fun σ H Q E k => by
  refine ofE (pe_callTy call_tuple_of hg hm (by decide +kernel) (pa_cons pe_w pa_nil he) (by decide) (by decide) he rfl) ?_
  refine h σ H _ E fun v H1 e1 dv => ?_
  obtain ⟨q, xs, rfl, hq, hx⟩ := dp_lst dv
  rw [dpA_ints hx] at hq
  exact ⟨q, _, rfl, .inl ⟨hq, fun l hl => k _ _ (e1.trans (Same.new hl)) (xv_stb.ok ⟨l, rfl, upd_same⟩)⟩⟩
/-- {k: v}: one key, a tuple of ints -/
theorem we_disp1 {σ : L2.St} {H : Hp} {Q : VK} (hu : X.A.units + 1 < cLine) (ha : EX X F ρ e (sXV ns)) (hb : ED X F ρ ve d) (E : EnvOk X.K F H σ ρ) (k : ∀ q H', Same H H' → H q = none → DK H' q [ns] → Q (.ref q) H') : wE X (.Dict [some e] [ve] pos) σ H Q := fun pins s I => by
  have hn := I.hok.fresh (Nat.le_refl s.heap.objs.size)
  have I1 := I.laid (a := s.heap.objs.size) (o := .dT []) (h' := s.heap.push { cls := .type "dict", data := .dict #[] }) (t' := s.toks) (fun _ _ q => Heap.get?_push_of_some _ q) (Nat.le_refl _) (dt_empty s.heap I.big)
  have e0 : Same H (upd H s.heap.objs.size (.dT [])) := Same.new hn
  refine wpAny_Dict_any rfl rfl (by simp) (by simp) (thn ((pps_cons (pos := pos) pe_w pe_w pps_nil).run pins _ σ _ (fun ps H2 => ∃ a v, ps = [(V.ref a, v)] ∧ H2 a = some (.tup (ns.map V.int)) ∧ Same (upd H s.heap.objs.size (.dT [])) H2) I1 ?_) fun ws s2 ⟨ps, H2, I2, rel, a, v, ep, ha2, e2⟩ => ?_)
  · refine ha σ _ _ (E.mono e0) fun x H1 e1 dx => ?_
    refine hb σ H1 _ ((E.mono e0).mono e1) fun y H2 e2 dy => ?_
    obtain ⟨a, rfl, hl⟩ := (dx.mono e2).p
    exact ⟨a, y, rfl, hl, e1.trans e2⟩
  · subst ep
    cases rel with
    | @cons p0 w0 ps ws h t =>
      cases t
      obtain ⟨u, r⟩ := w0
      obtain ⟨h1, h2⟩ := h
      cases (show u = Value.ref a from h1)
      have e : H2 s.heap.objs.size = some (.dT []) := e2 _ _ upd_same
      have eb : H2 a = some (.tup ((kVs ns).map kV)) := by rw [kVs_kV]; exact ha2
      obtain ⟨z, hd, xs, rel, dd⟩ := dt_of I2.hok e
      have hz : xs.length ≤ sizeLine := by rw [← Paired.length rel]; exact z
      have hl : (putK [] (kVs ns) v).length ≤ sizeLine := by have := length_putK [] (kVs ns) v; rw [sizeLine_eq]; simp at this; omega
      unfold storeAll
      rw [List.forIn_cons]
      refine wpAny_bind (wpAny_bind (wpAny_dictSet_heap (hsz := hz) (show X.A.units < cLine by omega) (key_of I2.hok eb) dd fun h' dd' hs => ?_))
      obtain ⟨q, es, ep, hq, h2', h3, h4, _, h5⟩ := dd'
      refine wpAny_pure ?_
      show wpAny _ _ (forIn [] _ _) _ _ _
      rw [List.forIn_nil]
      refine wpAny_pure ⟨.ref s.heap.objs.size, upd H2 s.heap.objs.size (.dT (putK [] (kVs ns) v)), d_write I2 (by rw [e]; exact True.intro) hs ⟨q, hq⟩ ⟨hl, hd, _, (rel.put (kVs ns) eb h2).keeps fun c ys ec => ?_, q, es, ep, hq, h2', h3, h4, h5⟩, rfl, k _ _ ?_ hn ⟨_, upd_same, keys_put (kvs := []) (L := []) rfl ns v⟩⟩
      · rw [upd_ne (ne_of ec e (fun z => nomatch z))]
        exact ec
      · intro b o hb
        rw [upd_ne (ne_of_none hb hn)]
        exact e2 _ _ (e0 _ _ hb)
end
end DL
end
section
namespace DL
open PySem PySem.Spec PyProof.Rows L2 WM RM
section
variable {X : Cx} {F : Hp} {ρ : Rho} {a b c e f o i tg ve : Expr} {es : List Expr} {rest sts : List Stmt} {pos p2 p apos pos' tpos : Pos} {d d1 d2 d3 : PyData} {ds : List PyData} {x : Str} {v u : V} {D : Ends} {ns : List Int} {q l : Addr} {L : List (List Int)}
theorem DK.same {H H' : Hp} (h : DK H q L) (e : Same H H') : DK H' q L := by obtain ⟨kvs, h1, h2⟩ := h; exact ⟨kvs, e _ _ h1, h2⟩
theorem DK.len {kvs : List (List Key × V)} (h : kvs.map (·.1) = L.map kVs) : kvs.length = L.length := by
  have := congrArg List.length h
  simpa using this
/-- d[t] = v, t a tuple of ints -/
theorem rb_dput (hu : X.A.units + 1 < cLine) (ho : EV X F ρ o (.ref q)) (hF : DK F q L) (hl : L.length ≤ 10000) (hi : EX X F ρ i (sXV ns)) (hv : ED X F ρ e d) (hR : immRX X.K ρ)
    (k : ∀ F', Keep (· = q) F F' → TI X.K F F' → DK F' q (addL L ns) → RB X F' ρ rest D)
    (hs : swapsWith e (some (.Subscript o i pos')) pos.line X.env = pure false := by rfl) : RB X F ρ (.Assign [.Subscript o i pos'] e pos :: rest) D :=
  rb_step fun σ H E => ofS (ps_dput hu pe_w pe_w pe_w hs) (by
    refine hv σ H _ E fun v H1 e1 dv => ?_
    refine ho σ H1 _ (E.mono e1) fun H2 e2 => ?_
    refine hi σ H2 _ ((E.mono e1).mono e2) fun y H3 e3 dy => ?_
    obtain ⟨t, rfl, ht⟩ := dy.p
    have E3 := ((E.mono e1).mono e2).mono e3
    obtain ⟨kvs, h1, h2⟩ := hF
    have hq := E3.2.2 _ _ h1
    have hz := DK.len h2
    have ti : TI X.K H3 (upd H3 q (.dT (putK kvs (kVs ns) v))) := ⟨(TK.refl H3).upd (by rw [hq]; trivial), fun b C dx fs hb => by rw [upd_ne (fun z => by rw [z, hq] at hb; cases hb)]; exact hb⟩
    have tF : TI X.K F H3 := ⟨TK.of E3.2.2, fun b C dx fs hb => E3.2.2 _ _ hb⟩
    exact ⟨q, _, rfl, DPut.t hq (by rw [kVs_kV]; exact ht) (by rw [sizeLine_eq]; omega), k _ ((Keep.of E3.2.2).upd (.inl rfl)) ⟨tF.1.trans ti.1, fun b C dx fs hb => ti.2 _ _ _ _ (tF.2 _ _ _ _ hb)⟩ ⟨_, upd_same, keys_put h2 ns v⟩ _ _ (E3.ti ti hR (Same.refl _))⟩)
theorem keys_dp {K : PySem.W.Frag} {H : Hp} : ∀ {kvs : List (List Key × V)} {bs : List Addr} {L : List (List Int)}, IsKeys H kvs bs → kvs.map (·.1) = L.map kVs → DpAll K H (bs.map V.ref) (L.map fun v => dV v)
  | [], bs, L, h, e => by
    cases h
    cases L with
    | nil => exact .nil
    | cons => simp at e
  | p :: kvs, bs, [], h, e => by simp at e
  | p :: kvs, bs, ns :: L, h, e => by
    cases h with
    | @cons _ b _ bs h1 h2 =>
      rw [List.map_cons, List.map_cons, List.cons.injEq] at e
      refine .cons (.tup (SqT.of (xs := ns.map V.int) ?_) (ints_dpA ns)) (keys_dp h2 e.2)
      rw [h1, e.1, kVs_kV]
theorem ed_listDK (hc : X.calm = true) (hm : X.mg "list" = none) (ho : EV X F ρ e (.ref q)) (hF : DK F q L) (hg : Gl X "list" := by rfl) (he : starEach [e] X.env = (false, eval e X.env) :: starEach [] X.env := by rfl) : ED X F ρ (.Call (.Name "list" p) [e] [] pos) (dLM L) := fun σ H Q E k => by
  refine ofE (pe_callTy (call_list_dT hc) hg hm (by decide +kernel) (pa_cons pe_w pa_nil he) (by decide) (by decide) he rfl) ?_
  refine ho σ H _ E fun H1 e1 => ?_
  obtain ⟨kvs, h1, h2⟩ := hF
  refine ⟨q, kvs, rfl, .inl ((E.mono e1).2.2 _ _ h1), fun p bs hp hk => k _ _ (e1.trans (Same.new hp)) (.lst (SqL.of upd_same) (dpA_mono (Same.new hp) (keys_dp hk h2)))⟩
theorem ed_lenDK (hm : X.mg "len" = none) (ho : EV X F ρ e (.ref q)) (hF : DK F q L) (hg : Gl X "len" := by rfl) (he : starEach [e] X.env = (false, eval e X.env) :: starEach [] X.env := by rfl) : ED X F ρ (.Call (.Name "len" p) [e] [] pos) (.int (L.length : Nat)) := fun σ H Q E k => by
  refine ofE (pe_callB call_len_dT hg hm boot_len (pa_cons pe_w pa_nil he) (by decide) (by decide) he rfl) ?_
  refine ho σ H _ E fun H1 e1 => ?_
  obtain ⟨kvs, h1, h2⟩ := hF
  exact ⟨q, kvs, rfl, (E.mono e1).2.2 _ _ h1, by rw [DK.len h2]; exact k _ _ e1 (.int _)⟩
def rSortDT (K : PySem.W.Frag) : List V → Hp → VK → Prop := fun vs H Q => ∃ (a : Addr) (L : List (List Int)), vs = [V.ref a] ∧ DK H a L ∧ (∀ r ∈ L, r ≠ []) ∧ L.length ≤ 100000 ∧
  ∀ p xs, H p = none → DpAll K H xs ((sortV L).map fun r => dV r) → Q (.ref p) (upd H p (.lst xs))
theorem reads_nil {pins : List (Addr × Obj)} {σ : L2.St} {H : Hp} {s : Shared} (I : Inv X pins σ H s) {v : V} {u : Value} {r : List Int} (dv : Dp X.K H v (dV r)) (rv : RelV v u) : Reads s.heap u (dV r) [] := by
  obtain ⟨as, h⟩ := reads_V I dv rv
  cases h with
  | tuple h1 h2 h3 h4 =>
    obtain ⟨_, rfl⟩ := readsAll_intsAre0 h4
    exact .tuple h1 h2 h3 h4
theorem cr_sortedDT (hcalm : X.calm = true) (hu : X.A.units + 64 < cLine) : CallR X (.builtin "sorted") (rSortDT X.K) := by
  intro pins s σ H vs us Q I r h
  obtain ⟨d, L, rfl, ⟨kvs, hd, hks⟩, hne, hl, q⟩ := h
  rw [Vals.ref1 r]
  obtain ⟨z, hs, ks, pr, o, es, ep, ho, hx, hdt, he, hn⟩ := (show ObjOk X.prog X.w H s.heap d (.dT kvs) from I.hok _ _ hd)
  have l1 : es.size = ks.length := size_of_entries he
  have l2 : kvs.length = ks.length := Paired.length pr
  refine Calls.call_function_entry PyProof.Rows.kind_sorted PyProof.Rows.plain_sorted PyProof.Rows.entry_sorted (PyProof.Rows.args_sorted1 _) ?_
  unfold Builtin.«sorted»
  refine wpAny_bind (m := checkCount "sorted" 1 1 _) (wpAny_pure ?_)
  refine wpAny_bind (PySem.W.kdu_collect (A := X.A.in1) (kdl_raw hs hx hdt) (I.ok.hd hcalm) ho (by omega) fun h' tk acc hk it => ?_)
  have ea : acc.toList = ks.map fun x => Value.ref x.2.1 := by
    have hl : acc.toList.length = ks.length := by rw [Array.length_toList, it.1]; exact l1
    apply List.ext_getElem?
    intro j
    rw [List.getElem?_map]
    cases hj : acc.toList[j]? with
    | none =>
      have h1 := List.getElem?_eq_none_iff.mp hj
      rw [List.getElem?_eq_none (by omega)]
      all_goals rfl
    | some v =>
      obtain ⟨en, hen, hv⟩ := it.2 j v (by rw [← Array.getElem?_toList]; exact hj)
      have qe := entry_at he j
      rw [hen] at qe
      cases hb : ks[j]? with
      | none =>
        rw [hb] at qe
        exact nomatch (show some en = none from qe)
      | some b =>
        rw [hb] at qe
        have e2 : en = entryOfKey (tupleKind (mixKind X.prog X.w)) b := Option.some.inj qe
        rw [hv, e2]
        all_goals rfl
  have eb : acc.toList = (ks.map fun x => x.2.1).map Value.ref := by rw [ea, List.map_map]; all_goals rfl
  have dks := keys_dp (K := X.K) (isKeys_of pr) hks
  obtain ⟨bs, hb1, rfl, hbd⟩ := dpA_zip dks
  have I1 : Inv X pins σ H { s with heap := h', toks := tk } := I.kept hk
  have rv : Vals (bs.map (·.1)) acc.toList := by rw [hb1, eb]; exact vals_refs _
  have hz : bs.length ≤ sizeLine := by rw [sizeLine_eq]; rw [List.length_map] at hl; omega
  have hal : acc.toList.length = bs.length := by rw [← rv.length, List.length_map]
  refine wpAny_bind (wpAny_newList ?_ (by rw [hal]; exact hz))
  have hoL : (h'.push (seqObj "list" acc.toList.toArray 0)).get? h'.objs.size = some (seqObj "list" acc.toList.toArray 0) := Heap.get?_push_size _ rfl
  show wpAny _ _ _ _ _ { s with heap := h'.push (seqObj "list" acc.toList.toArray 0), toks := tk }
  have pair : ∀ {bs : List (V × List Int)} {its : List Value}, Vals (bs.map (·.1)) its → (∀ b ∈ bs, Dp X.K H b.1 (dV b.2)) → PySem.W.EachIs (fun v (b : V × List Int) => RelV b.1 v ∧ Reads (h'.push (seqObj "list" acc.toList.toArray 0)) v (dV b.2) []) its bs := by
    intro bs
    induction bs with
    | nil => intro its h _; cases h; exact .nil
    | cons b bs ih =>
      intro its h hd
      cases h with
      | cons h1 h2 => exact .cons ⟨h1, PyProof.Rows.Reads.keeps (fun _ _ e => Heap.get?_push_of_some _ e) (reads_nil I1 (hd b List.mem_cons_self) h1)⟩ (ih h2 fun c hc => hd c (List.mem_cons_of_mem _ hc))
  have e := pair rv hbd
  refine wpAny_bind (wpAny_holding (PySem.W.list_sort_data (R := fun v (b : V × List Int) => RelV b.1 v) (enc := fun b : V × List Int => dV b.2) (vs := acc.toList) (bs := bs) hoL (e.mono fun _ _ h => h.1) (e.mono fun _ _ h => ⟨[], h.2, by simp⟩) (PySem.W.AllAlike.of fun b b' => alike_V b.2 b'.2) (.inl fun d hd' => ?_) hz (fun b _ => ?_) fun out ho2 eo => ?_))
  · obtain ⟨b, hb, rfl⟩ := List.mem_map.mp hd'
    cases e1 : b.2 with
    | nil => exact (hne b.2 (List.mem_map.mpr ⟨b, hb, rfl⟩) e1).elim
    | cons x r => exact ⟨_, _, rfl⟩
  · show X.A.in1.units + 1 + PyData.depth (.tuple (b.2.map .int)) < cLine
    have hin : X.A.in1.units = X.A.units + 1 := rfl
    simp [PyData.depth, PySem.W.depth_ints]
    omega
  · obtain ⟨e', he'⟩ := PyProof.Rows.sortedHeap_at (vs := acc.toList) (out := out.toArray) hoL
    have vo : ∀ {out : List Value} {cs : List (V × List Int)}, PySem.W.EachIs (fun v (b : V × List Int) => RelV b.1 v) out cs → Vals (cs.map (·.1)) out := by
      intro out cs h
      induction h with
      | nil => exact .nil
      | cons h1 _ ih => exact .cons h1 ih
    have hlen : ((bs.mergeSort (PySem.W.dataLe false fun b => dV b.2)).map (·.1)).length ≤ sizeLine := by rw [List.length_map, List.length_mergeSort]; exact hz
    have pm := List.mergeSort_perm bs (PySem.W.dataLe false fun b : V × List Int => dV b.2)
    have esv : sortV (bs.map (·.2)) = (bs.mergeSort (PySem.W.dataLe false fun b : V × List Int => dV b.2)).map (·.2) := by
      refine sortV_eq (pm.map _) (List.pairwise_map.mpr ?_)
      rw [dataLe_V]
      exact (List.pairwise_mergeSort (le := fun a b : V × List Int => decide (a.2 ≤ b.2)) (fun a b c h1 h2 => by simp at *; exact List.le_trans h1 h2) (fun a b => by simpa using List.le_total a.2 b.2) bs).imp fun h => by simpa using h
    refine wpAny_pure ⟨_, rfl, .ref h'.objs.size, upd H h'.objs.size (.lst ((bs.mergeSort (PySem.W.dataLe false fun b => dV b.2)).map (·.1))), I1.laid (t' := tk) (fun b u e => ?_) (Nat.le_refl _)
      (show ObjOk X.prog X.w _ _ _ (.lst _) from ⟨hlen, out, e', vo eo, he'⟩), rfl, q _ _ (I1.hok.fresh (Nat.le_refl _)) ?_⟩
    · have hb : b < h'.objs.size := Heap.lt_size e
      rw [PyProof.Rows.sortedHeap_old (Nat.ne_of_lt hb) (by rw [size_push']; exact Nat.lt_succ_of_lt hb)]
      exact Heap.get?_push_of_some _ e
    · rw [esv]
      exact zip_dpA fun b hb' => hbd b (pm.mem_iff.mp hb')
theorem ed_sortedDK (hc : X.calm = true) (hm : X.mg "sorted" = none) (hu : X.A.units + 64 < cLine) (ho : EV X F ρ e (.ref q)) (hF : DK F q L) (hne : ∀ r ∈ L, r ≠ []) (hl : L.length ≤ 100000) (hg : Gl X "sorted" := by rfl) (he : starEach [e] X.env = (false, eval e X.env) :: starEach [] X.env := by rfl) : ED X F ρ (.Call (.Name "sorted" p) [e] [] pos) (dLM (sortV L)) := fun σ H Q E k => by
  refine ofE (pe_callB (cr_sortedDT hc hu) hg hm (by decide +kernel) (pa_cons pe_w pa_nil he) (by decide) (by decide) he rfl) ?_
  refine ho σ H _ E fun H1 e1 => ?_
  exact ⟨q, L, rfl, hF.same (E.mono e1).2.2, hne, hl, fun p xs hp dv => k _ _ (e1.trans (Same.new hp)) (.lst (SqL.of upd_same) (dpA_mono (Same.new hp) dv))⟩
end
end DL
end
section
namespace DL
open PySem PySem.Spec PyProof.Rows L2 WM RM
theorem none_of {H H1 : Hp} {D : Addr} (e : Same H H1) (h : H1 D = none) : H D = none := by
  cases q : H D with
  | none => rfl
  | some o => rw [e _ _ q] at h; cases h
section
variable {X : Cx} {F : Hp} {ρ : Rho} {e f tg iter elt : Expr} {ifs : List Expr} {pos p : Pos} {P : PyData → Prop} {x : Str} {ι : Type} {items : List ι} {enc res : ι → PyData} {pr : ι → Bool} {en : ι → Rho} {g : TG} {js : List Nat} {scope : Scope} {own : List (Str × Nat)}
theorem tlcX_main {tt : TT} {te : TE} (hi : IT X F ρ tg iter (items.map enc))
    (hjs : ∀ j ∈ js, j ∈ own.map (·.2)) (tgo : ∀ i ∈ items, TgOk X.K g js (wipeR ρ (own.map (·.2))) (enc i) (en i))
    (hte : ∀ i ∈ items, ∀ σ H (Q : Bool → Hp → Prop), EnvOk X.K F H σ (en i) → (∀ H', Same H H' → Q (pr i) H') → tt σ H Q)
    (hel : ∀ i ∈ items, pr i = true → ∀ σ H (Q : VK), EnvOk X.K F H σ (en i) → (∀ v H', Same H H' → Dp X.K H' v (res i) → Q v H') → te σ H Q)
    (hm : ∀ i ∈ items, imm (res i) = true) (hl : items.length ≤ 100000) {σ : L2.St} {H : Hp} {Q : VK} (E : EnvOk X.K F H σ ρ) (k : ∀ q xs H', Same H H' → H q = none → H' q = some (.lst xs) → DpAll X.K H' xs ((items.filter pr).map res) → Q (.ref q) H') : tLc (wI X tg iter) g tt te (own.map (·.2)) σ H Q := by
  refine hi σ H _ E fun J H1 e1 w => fun D hD => ?_
  let n := items.length
  have hn : (items.map enc).length = n := by simp [n]
  let part := fun i : Nat => ((items.take i).filter pr).map res
  let Pv := fun (i : Nat) (H : Hp) => i ≤ n ∧ Same H1 H ∧ ∃ acc, H D = some (.lst acc) ∧ DpAll X.K H acc (part i)
  have himm : ∀ i, immL (part i) = true := fun i => immL_iff.mpr fun d hd => by
    obtain ⟨a, ha, rfl⟩ := List.mem_map.mp hd
    exact hm a (List.mem_of_mem_take (List.mem_filter.mp ha).1)
  refine ⟨fun i m H => m = n - i ∧ Pv i H, ⟨n, by simp, Nat.zero_le _, Same.new hD, [], upd_same, by simp [part]; exact .nil⟩, ?_⟩
  rintro i m H' ⟨rfl, hin, s1, acc, ha, hacc⟩
  obtain ⟨w1, w2, w3⟩ := w H' s1
  by_cases hlt : i < n
  · right
    refine ⟨w1 i (by omega), Pv (i + 1), fun H2 p => ⟨n - (i + 1), by omega, rfl, p⟩, fun x H2 y => ?_⟩
    have hit : items[i]? = some items[i] := List.getElem?_eq_getElem hlt
    have hmem : items[i] ∈ items := List.getElem_mem hlt
    obtain ⟨s2, dx⟩ := w3 i x H2 (enc items[i]) (by rw [List.getElem?_map, hit]; rfl) y
    have E2 := ((E.mono ((e1.trans s1).trans s2)).wipe (own.map (·.2)))
    refine tgo _ hmem F _ _ x _ E2 dx fun σ2 E3 hw => ⟨by rw [hw _ hjs, wipe_wipe], ?_⟩
    refine hte _ hmem σ2 H2 _ E3 fun H3 s3 => ?_
    have tk : items.take (i + 1) = items.take i ++ [items[i]] := by rw [List.take_succ, hit]; rfl
    cases hp : pr items[i] with
    | false =>
      rw [if_neg Bool.false_ne_true]
      refine ⟨hlt, (s1.trans s2).trans s3, acc, s3 _ _ (s2 _ _ ha), ?_⟩
      have e4 : part (i + 1) = part i := by simp only [part]; rw [tk, List.filter_append, List.filter_cons, hp]; simp
      rw [e4]
      exact dpA_mono (s2.trans s3) hacc
    | true =>
      rw [if_pos rfl]
      refine hel _ hmem hp σ2 H3 _ (E3.mono s3) fun v H4 s4 dv => ?_
      have l1 := dpA_len hacc
      have l2 : (part i).length ≤ i := by
        simp only [part]
        rw [List.length_map]
        exact Nat.le_trans (List.length_filter_le _ _) (by rw [List.length_take]; omega)
      have hD4 : H4 D = some (.lst acc) := s4 _ _ (s3 _ _ (s2 _ _ ha))
      refine ⟨acc, hD4, Nat.lt_of_lt_of_le (by omega : acc.length < 100001) (by decide), hlt, ?_, acc ++ [v], upd_same, ?_⟩
      · intro b o hb
        have nb : b ≠ D := ne_of_none hb hD
        rw [upd_ne nb]
        exact s4 _ _ (s3 _ _ (s2 _ _ (s1 _ _ hb)))
      · have e4 : part (i + 1) = part i ++ [res items[i]] := by simp only [part]; rw [tk, List.filter_append, List.filter_cons, hp]; simp
        rw [e4]
        have t : TK X.K H4 (upd H4 D (.lst (acc ++ [v]))) := (TK.refl H4).upd (by rw [hD4]; trivial)
        refine dpA_snoc (dpA_tk t _ (himm i) (dpA_mono ((s2.trans s3).trans s4) hacc)) (dp_tk t _ (hm _ hmem) dv)
  · left
    have e : i = n := by omega
    subst e
    rw [hn] at w2
    refine ⟨w2, k _ _ _ (e1.trans s1) (none_of e1 hD) ha ?_⟩
    have e5 : part n = (items.filter pr).map res := by simp only [part, n]; rw [List.take_length]
    rw [← e5]
    exact hacc
/-- e makes a new list of this data -/
def EL (X : Cx) (F : Hp) (ρ : Rho) (e : Expr) (ds : List PyData) : Prop := ∀ σ H Q, EnvOk X.K F H σ ρ → (∀ q xs H', Same H H' → H q = none → H' q = some (.lst xs) → DpAll X.K H' xs ds → Q (.ref q) H') → wE X e σ H Q
theorem el_eq {ds ds' : List PyData} (h : EL X F ρ e ds) (q : ds = ds') : EL X F ρ e ds' := q ▸ h
theorem xl_lc (hc : X.calm = true) (hN : X.N.Nodup) (hi : IT X F ρ tg iter (items.map enc)) (ok : BlkOk X.N X.env.scope scope own)
    (hg : ∀ s H C cl fp, PG (BlkX X scope s H C cl fp) tg g) (hjs : ∀ j ∈ js, j ∈ own.map (·.2)) (tgo : ∀ i ∈ items, TgOk X.K g js (wipeR ρ (own.map (·.2))) (enc i) (en i))
    (hel : ∀ s H C cl fp, ∀ i ∈ items, ED (BlkX X scope s H C cl fp) F (en i) elt (res i))
    (hm : ∀ i ∈ items, imm (res i) = true) (hl : items.length ≤ 100000) (hs : ∀ x, foldedSetIterable iter X.env x = pure x := by intro _; rfl) : EL X F ρ (.ListComp elt [⟨tg, iter, [], 0⟩] scope pos) (items.map res) := fun σ H Q E k => by
  have eL : ((items.filter fun _ => true).map res) = items.map res := by rw [List.filter_eq_self.mpr]; intros; rfl
  exact ofE (pe_lc hc hN pi_w ok hg (fun _ _ _ _ _ => pts_nil) (te := fun σ H Q => ∀ s H0 C cl fp, wE (BlkX X scope s H0 C cl fp) elt σ H Q) (fun s H0 C cl fp => ⟨fun pins st σ H Q I h => h s H0 C cl fp pins st I⟩) hs)
    (tlcX_main (pr := fun _ => true) (σ := σ) (H := H) (Q := Q) hi hjs tgo (fun i hi σ H Q E k => k H (Same.refl H)) (fun i hi _ σ H Q E k s H0 C cl fp => hel s H0 C cl fp i hi σ H Q E k) hm hl E fun q xs H' e hq hx dv => k q xs H' e hq hx (eL ▸ dv))
end
section
variable {X : Cx} {F : Hp} {ρ : Rho} {a b c e f o tg : Expr} {es : List Expr} {rest sts us : List Stmt} {pos p2 p pos' apos : Pos} {d d1 d2 d3 : PyData} {ds : List PyData} {x fl : Str} {v u : V} {D : Ends} {q l : Addr}
/-- l.extend(e), e a new list -/
theorem rb_extend {ys : List V} (ho : EV X F ρ o (.ref l)) (hF : F l = some (.lst ys)) (ha : EL X F ρ e ds) (hl : ys.length + ds.length ≤ 100000) (hd : immL ds = true) (hR : immRX X.K ρ)
    (k : ∀ H xs, Keep (· = l) F H → TI X.K F H → H l = some (.lst (ys ++ xs)) → DpAll X.K H xs ds → RB X H ρ rest D)
    (hbase : attributeBase o "extend" X.env (eval o X.env) = eval o X.env := by rfl)
    (hfew : ((backTo pos (starEach [e] X.env)).all (fun x => !x.1) && (backToKw pos (keywordEach [] X.env)).all (fun x => x.1.isSome) && decide (([e] : List Expr).length + ([] : List Keyword).length + (if ([] : List Keyword).isEmpty then 0 else 1) < 30)) = true := by rfl)
    (hline : (apos.endLine == pos.line) = true := by rfl) (hs : starEach [e] X.env = (false, eval e X.env) :: starEach [] X.env := by rfl) (hplain : (backTo pos (starEach [] X.env)).any (·.1) = false := by rfl)
    (hsw : swapsWith (.Call (.Attribute o "extend" apos) [e] [] pos) none pos'.line X.env = pure false := by rfl) :
    RB X F ρ (.Expr (.Call (.Attribute o "extend" apos) [e] [] pos) pos' :: rest) D :=
  rb_exprW (fun σ H E => by
    refine ofE (pe_bm PySem.F.plainAttrs_list PySem.F.slot_list_extend PySem.F.type_list_extend mt_extend pe_w (pa_cons pe_w pa_nil hs) hbase hfew hline hs hplain) ?_
    refine ho σ H _ E fun H1 e1 => ⟨.inl ⟨rfl, ys, SqL.of (e1 _ _ (E.2.2 _ _ hF))⟩, ?_⟩
    refine ha σ H1 _ (E.mono e1) fun q xs H2 e2 hq1 hq hx => ?_
    have E2 := (E.mono e1).mono e2
    have hl2 := E2.2.2 _ _ hF
    have lx := dpA_len hx
    refine ⟨l, q, ys, xs, rfl, rfl, hl2, hq, by rw [sizeLine_eq]; omega, ?_⟩
    have t : TI X.K H2 (upd H2 l (.lst (ys ++ xs))) := ⟨(TK.refl H2).upd (by rw [hl2]; trivial), fun b C dx fs hb => by rw [upd_ne (fun z => by rw [z, hl2] at hb; cases hb)]; exact hb⟩
    have tF : TI X.K F H2 := ⟨TK.of E2.2.2, fun b C dx fs hb => E2.2.2 _ _ hb⟩
    exact ⟨_, k _ xs ((Keep.of E2.2.2).upd (.inl rfl)) ⟨tF.1.trans t.1, fun b C dx fs hb => t.2 _ _ _ _ (tF.2 _ _ _ _ hb)⟩ upd_same (dpA_tk t.1 _ hd hx), E2.ti t hR (Same.refl _)⟩) hsw
/-- for over the list at l, while others change -/
theorem im_lstV {tg : Expr} {ws : List V} (ho : EV X F ρ e (.ref l)) (hF : F l = some (.lst ws)) (hw : DpAll X.K F ws ds) (hm : ∀ d ∈ ds, imm d = true) :
    ∀ σ H R, EnvOk X.K F H σ ρ → (∀ J H1, Same H H1 → WalkM X.K J H1 (fun H2 => TK X.K H1 H2 ∧ H2 l = some (.lst ws)) ds → R J H1) → wI X tg e σ H R := fun σ H R E k => by
  refine ofI (pi_list pe_w) ?_
  refine ho σ H _ E fun H1 e1 => ?_
  have eF := (E.mono e1).2.2
  refine ⟨l, rfl, ⟨ws, SqL.of (eF _ _ hF)⟩, k _ _ e1 fun H2 t => ?_⟩
  exact walkD_lst (SqL.of t.2) (dpA_tk t.1 ds (immL_iff.mpr hm) (dpA_mono eF hw)) H2 (Same.refl _)
end
end DL
end
section
namespace DL
open WM
/-! ### all vectors, in order -/
def allV (n : Nat) : Nat → List (List Int)
  | 0 => [[]]
  | m + 1 => (allV n m).flatMap fun v => (List.range (2 ^ n)).map fun x : Nat => v ++ [(x : Int)]
theorem allV_len (n : Nat) : ∀ m, (allV n m).length = 2 ^ (n * m)
  | 0 => by simp [allV]
  | m + 1 => by
    have h : (allV n (m + 1)).length = (allV n m).length * 2 ^ n := by
      show ((allV n m).flatMap _).length = _
      generalize allV n m = L
      induction L with
      | nil => simp
      | cons v L ih =>
        rw [List.flatMap_cons, List.length_append, ih]
        simp [Nat.add_mul, Nat.add_comm]
    rw [h, allV_len n m, ← Nat.pow_add]; rfl
theorem allV_mem {n : Nat} : ∀ {m : Nat} {v : List Int}, v ∈ allV n m ↔ IsVec n m v
  | 0, v => by
    constructor
    · intro h; rw [List.mem_singleton.mp h]; exact ⟨rfl, fun x hx => nomatch hx⟩
    · intro h; have := List.eq_nil_of_length_eq_zero h.1; subst this; exact List.mem_singleton.mpr rfl
  | m + 1, v => by
    have hp := pow_pos2 n
    constructor
    · intro h
      obtain ⟨u, hu, h2⟩ := List.mem_flatMap.mp h
      obtain ⟨x, hx, rfl⟩ := List.mem_map.mp h2
      have hu' := allV_mem.mp hu
      have hx' : x < 2 ^ n := List.mem_range.mp hx
      refine ⟨by simp [hu'.1], fun y hy => ?_⟩
      rcases List.mem_append.mp hy with z | z
      · exact hu'.2 y z
      · rw [List.mem_singleton.mp z]
        have : ((2 ^ n : Nat) : Int) = (2 : Int) ^ n := by simp
        omega
    · intro h
      obtain ⟨u, x, rfl, hu⟩ := snoc_of h.1
      have hx := h.2 x (by simp)
      refine List.mem_flatMap.mpr ⟨u, allV_mem.mpr ⟨hu, fun y hy => h.2 y (List.mem_append_left _ hy)⟩, List.mem_map.mpr ⟨x.toNat, List.mem_range.mpr ?_, ?_⟩⟩
      · have : ((2 ^ n : Nat) : Int) = (2 : Int) ^ n := by simp
        omega
      · rw [Int.toNat_of_nonneg hx.1]
theorem lt_app1 : ∀ {u v a b : List Int}, u < v → u.length = v.length → u ++ a < v ++ b
  | [], [], _, _, h, _ => absurd h (List.lt_irrefl _)
  | [], _ :: _, _, _, _, h => by simp at h
  | _ :: _, [], _, _, _, h => by simp at h
  | x :: u, y :: v, a, b, h, hl => by
    rw [List.cons_append, List.cons_append, List.cons_lt_cons_iff]
    rcases List.cons_lt_cons_iff.mp h with q | ⟨q, r⟩
    · exact .inl q
    · exact .inr ⟨q, lt_app1 r (by simpa using hl)⟩
theorem lt_app2 {x y : Int} (h : x < y) : ∀ {u : List Int}, u ++ [x] < u ++ [y]
  | [] => List.cons_lt_cons_iff.mpr (.inl h)
  | z :: u => List.cons_lt_cons_iff.mpr (.inr ⟨rfl, lt_app2 h⟩)
theorem allV_pw {n : Nat} : ∀ m, (allV n m).Pairwise (· < ·)
  | 0 => List.pairwise_singleton _ _
  | m + 1 => by
    refine List.pairwise_flatMap.mpr ⟨fun v hv => ?_, ?_⟩
    · refine List.pairwise_map.mpr (List.pairwise_lt_range.imp fun {a b} h => ?_)
      exact lt_app2 (by omega)
    · refine (allV_pw m).imp_of_mem fun {u v} hu hv h x hx y hy => ?_
      obtain ⟨a, _, rfl⟩ := List.mem_map.mp hx
      obtain ⟨b, _, rfl⟩ := List.mem_map.mp hy
      exact lt_app1 h ((allV_mem.mp hu).1.trans (allV_mem.mp hv).1.symm)
theorem allV_nodup {n m : Nat} : (allV n m).Nodup := (allV_pw m).imp fun {a b} h e => by subst e; exact List.lt_irrefl _ h
theorem sub_len {L M : List (List Int)} (hL : L.Nodup) (hM : M.Nodup) (h : ∀ v ∈ L, v ∈ M) : L.length ≤ M.length := by
  have h1 : L.length = (M.filter fun v => decide (v ∈ L)).length := len_of_mem hL (List.Pairwise.filter _ hM) fun v => by
    rw [List.mem_filter]; simp; exact h v
  rw [h1]; exact List.length_filter_le _ _
theorem vecs_len {n m : Nat} {L : List (List Int)} (hL : L.Nodup) (h : ∀ v ∈ L, IsVec n m v) : L.length ≤ 2 ^ (n * m) := by
  rw [← allV_len]; exact sub_len hL allV_nodup fun v hv => allV_mem.mpr (h v hv)
theorem addL_mem {L : List (List Int)} {v u : List Int} : u ∈ addL L v ↔ u ∈ L ∨ u = v := by
  unfold addL
  split
  · constructor
    · exact .inl
    · rintro (h | rfl)
      · exact h
      · assumption
  · simp
theorem addL_nodup {L : List (List Int)} {v : List Int} (h : L.Nodup) : (addL L v).Nodup := by
  unfold addL
  split
  · exact h
  · rw [List.nodup_append]
    exact ⟨h, List.pairwise_singleton _ _, fun a ha b hb e => by rw [List.mem_singleton.mp hb] at e; subst e; contradiction⟩
section
variable {n m : Nat} {S L : List (List Int)} {v : List Int}
/-- what holds of the dict of all sums, all along: its keys are sums of S's, and no key comes twice -/
def Snd (n m : Nat) (S L : List (List Int)) : Prop := L.Nodup ∧ ∀ x ∈ L, IsVec n m x ∧ SpB n m S (ix x)
/-- all sums of S stand there -/
def Cmp (n m : Nat) (S L : List (List Int)) : Prop := ∀ x, IsVec n m x → SpB n m S (ix x) → x ∈ L
theorem Snd.mono {T : List (List Int)} (h : Snd n m S L) (q : ∀ s ∈ S, s ∈ T) : Snd n m T L := ⟨h.1, fun x hx => ⟨(h.2 x hx).1, (h.2 x hx).2.mono q⟩⟩
theorem Snd.len (h : Snd n m S L) : L.length ≤ 2 ^ (n * m) := vecs_len h.1 fun v hv => (h.2 v hv).1
theorem lsum2 {y : List Int} {k : Int} (hy : y.length = m) (hv : v.length = m) : IsVec n m (lsum n m [y, v] [1, k]) ∧ ∀ j, j < m → (2 : Int) ^ n ∣ ix (lsum n m [y, v] [1, k]) j - (ix y j + k * ix v j) := by
  have h := lsum_ok (n := n) (m := m) (S := [y, v]) (ws := [1, k]) (fun z hz => by simp at hz; rcases hz with rfl | rfl <;> assumption) rfl
  refine ⟨h.1, fun j hj => dv1 1 (h.2 j hj) ?_⟩
  have e : comb [y, v] (ix [1, k]) j = 1 * ix y j + (k * ix v j + 0) := rfl
  rw [e]; grind
theorem Snd.add (h : Snd n m (S ++ [v]) L) {y : List Int} {k : Int} (hy : y ∈ L) (hv : v.length = m) : Snd n m (S ++ [v]) (addL L (lsum n m [y, v] [1, k])) := by
  refine ⟨addL_nodup h.1, fun x hx => ?_⟩
  rcases addL_mem.mp hx with q | rfl
  · exact h.2 x q
  · obtain ⟨h1, h2⟩ := h.2 y hy
    obtain ⟨a, b⟩ := lsum2 (n := n) (k := k) h1.1 hv
    refine ⟨a, ((h2.plus ((Sp.mem (M := 2 ^ n) (n := m) (s := v) (S := S ++ [v]) (by simp)).smul k))).congr fun i hi => dv1 1 (b i hi) (by grind)⟩
/-- words below j are done: their sums with all of S stand there -/
def Wds (n m : Nat) (S : List (List Int)) (v : List Int) (j : Nat) (L : List (List Int)) : Prop := ∀ x, IsVec n m x → SpB n m S (ix x) → ∀ k, k < j → lsum n m [x, v] [1, (k : Int)] ∈ L
theorem Wds.done (hL : Snd n m (S ++ [v]) L) (h : Wds n m S v (2 ^ n) L) (hv : IsVec n m v) : Cmp n m (S ++ [v]) L := fun x hx hs => by
  have hp := pow_pos2 n
  obtain ⟨g, hg, h2⟩ := sp_app hs
  obtain ⟨c, hc⟩ := Sp.cons h2
  have hz := Sp.nil hc
  obtain ⟨a, b⟩ := lsum2 (n := n) (k := -c) hx.1 hv.1
  have hy : SpB n m S (ix (lsum n m [x, v] [1, -c])) := hg.congr fun i hi => dv2 1 1 (b i hi) (hz i hi) (by grind)
  have q := h _ a hy (c % 2 ^ n).toNat (by
    have := Int.emod_lt_of_pos c hp
    have h0 := Int.emod_nonneg c (Int.ne_of_gt hp)
    have e : ((2 ^ n : Nat) : Int) = (2 : Int) ^ n := by simp
    omega)
  rw [Int.toNat_of_nonneg (Int.emod_nonneg c (Int.ne_of_gt hp))] at q
  obtain ⟨a2, b2⟩ := lsum2 (n := n) (k := c % 2 ^ n) a.1 hv.1
  have e : lsum n m [lsum n m [x, v] [1, -c], v] [1, c % 2 ^ n] = x := vec_eq a2 hx fun i hi => by
    have h1 := b i hi
    have h2 := b2 i hi
    have h3 : (2 : Int) ^ n ∣ c % 2 ^ n - c := emod_sub
    generalize ix (lsum n m [lsum n m [x, v] [1, -c], v] [1, c % 2 ^ n]) i = A at *
    generalize ix (lsum n m [x, v] [1, -c]) i = B at *
    obtain ⟨z1, e1⟩ := h1
    obtain ⟨z2, e2⟩ := h2
    obtain ⟨z3, e3⟩ := h3
    exact ⟨z1 + z2 + z3 * ix v i, by grind⟩
  rw [← e]; exact q
/-- the first sum -/
theorem rch0 : Snd n m [] [List.replicate m 0] ∧ Cmp n m [] [List.replicate m 0] := by
  refine ⟨⟨List.pairwise_singleton _ _, fun x hx => ?_⟩, fun x hx hs => ?_⟩
  · rw [List.mem_singleton.mp hx]
    exact ⟨isVec_zero, .zero fun i _ => dv0 (by rw [ix_zero])⟩
  · rw [List.mem_singleton]
    exact vec_eq hx isVec_zero fun i hi => dv1 1 (Sp.nil hs i hi) (by rw [ix_zero]; grind)
/-- the sums, sorted, are the sorted members of the basis -/
theorem rch_mem (hS : ∀ v ∈ S, IsVec n m v) (h1 : Snd n m S L) (h2 : Cmp n m S L) : sortV (memF n m (basF n m S)) = sortV L ∧ (L.length : Int) = cntP n (basF n m S) 1 := by
  have hB := basF_ok hS
  obtain ⟨m1, m2, m3, m4⟩ := memF_ok hB.1
  have hm : ∀ v, v ∈ memF n m (basF n m S) ↔ v ∈ L := fun v => ⟨fun h => h2 v (m1 v h) ((hB.2 _).mp ((m3 v (m1 v h)).mp h)), fun h => (m3 v (h1.2 v h).1).mpr ((hB.2 _).mpr (h1.2 v h).2)⟩
  have pm : (memF n m (basF n m S)).Perm L := (List.perm_ext_iff_of_nodup m2 h1.1).mpr hm
  exact ⟨sortV_eq ((sortV_perm L).trans pm.symm) (sortV_pw L), by rw [← m4, pm.length_eq]⟩
theorem ann_mem (hn : 0 < n) (hS : ∀ v ∈ S, IsVec n m v) : sortV (memF n m (annB n m (basF n m S))) = (allV n m).filter fun v => isZ n [v] S := by
  have hB := basF_ok hS
  have hA := annB_ok hn hB.1.1
  obtain ⟨m1, m2, m3, m4⟩ := memF_ok hA.1
  refine sortV_eq ((List.perm_ext_iff_of_nodup (List.Pairwise.filter _ allV_nodup) m2).mpr fun v => ?_) (((allV_pw m).filter _).imp fun {a b} h => List.le_of_lt h)
  rw [List.mem_filter, allV_mem]
  have key : ∀ hv : IsVec n m v, isZ n [v] S = true ↔ SpB n m (annB n m (basF n m S)) (ix v) := fun hv => by
    rw [isZ_iff (m := m) (fun a ha => by rw [List.mem_singleton.mp ha]; exact hv.1) (fun b hb => (hS b hb).1), hA.2, ann_cong hB.2]
    exact ⟨fun h s hs => h v (List.mem_singleton.mpr rfl) s hs, fun h a ha s hs => by rw [List.mem_singleton.mp ha]; exact h s hs⟩
  exact ⟨fun ⟨hv, hz⟩ => (m3 v hv).mpr ((key hv).mp hz), fun h => ⟨m1 v h, (key (m1 v h)).mpr ((m3 v (m1 v h)).mp h)⟩⟩
theorem mem_len (hB : Bas n m S) : (memF n m S).length ≤ 2 ^ (n * m) := vecs_len (memF_ok hB).2.1 (memF_ok hB).1
end
end DL
end
section
namespace K86
open PySem PySem.Spec PyProof.Rows L2 DL WM
section
variable {P : Program} {w : World} {K : PySem.W.Frag} {mg : Str → Option Value} {base : Heap}
abbrev R_law_sumX : RelX := fun xs r => ∃ (n m : Nat) (S : List (List Int)) (ws : List Int), xs = [.dat (.int (n : Nat)), .dat (.int (m : Nat)), .dat (dM S), .dat (dV ws)] ∧ (n ≤ 16 ∧ m ≤ 1000) ∧ (∀ v ∈ S, IsVec n m v) ∧ (∀ x ∈ ws, 0 ≤ x ∧ x < 2 ^ n) ∧ r = sXV (lsum n m S ws)
theorem cal_law_sumX (T : Top K mg) : Cal P w K mg base 1 "_law_sum" (spX K R_law_sumX) := by
  obtain ⟨fd, F⟩ := T.def_ i__law_sum rfl
  have sc : FnScope ["width", "size", "vectors", "words", "found", "vector", "word", "entry", "more"] ["width", "size", "vectors", "words"] (defScope s__law_sum) := ⟨rfl, rfl, rfl, by decide +kernel, rfl, by decide +kernel, by decide +kernel⟩
  have scN := sc.nd
  refine ⟨_, fd, _, fnB (k := 0) F sc (fun vs H Q E h => ?_) (fun cd A outer s H vs Q E hr h => ?_), T.glo j__law_sum rfl, F.kp, F.bindsN (fun _ _ _ _ _ _ us hl => match us, hl with | [_, _, _, _], _ => rfl)⟩
  · obtain ⟨xs, r, h1, ⟨n, m, S, ws, rfl, _⟩, _⟩ := h
    exact slAll_len h1
  · obtain ⟨xs, r, hx, ⟨n, m, S, ws, rfl, ⟨h1, h2⟩, hS, hw, rfl⟩, kq⟩ := h
    have n16 := pow16 h1
    refine (?_ : RB _ H (rhoS ["width", "size", "vectors", "words", "found", "vector", "word", "entry", "more"] [.dat (.int (n : Nat)), .dat (.int (m : Nat)), .dat (dM S), .dat (dV ws)]) _ _) _ H (env_startS hx)
    refine rb_set 4 (d := .list ((List.replicate m 0).map .int)) (ed_repL ed_int (ed_var 1 rfl) h2) ?_ scN
    have hg : ∀ i, IsVec n m (((S.zip ws).take i).foldl (fun f q => stepS n f q.1 q.2) (List.replicate m 0)) := fun i => by
      have gen : ∀ (L : List (List Int × Int)) (f : List Int), (∀ q ∈ L, IsVec n m q.1) → IsVec n m f → IsVec n m (L.foldl (fun f q => stepS n f q.1 q.2) f) := fun L => by
        induction L with
        | nil => exact fun f _ hf => hf
        | cons q L ih => exact fun f hq hf => ih _ (fun x hx => hq x (List.mem_cons_of_mem _ hx)) (stepS_ok hf.1 (hq q List.mem_cons_self).1).1
      exact gen _ _ (fun q hq => hS _ (List.of_mem_zip (List.mem_of_mem_take hq)).1) isVec_zero
    obtain ⟨fo, hfo⟩ : ∃ fo : Nat → List Int, ∀ i, fo i = ((S.zip ws).take i).foldl (fun f q => stepS n f q.1 q.2) (List.replicate m 0) := ⟨_, fun _ => rfl⟩
    have hg' : ∀ i, IsVec n m (fo i) := fun i => by rw [hfo]; exact hg i
    refine rb_sd (P := fun _ => False) (Kn := fun ρ' => ∃ o5 o6, ρ' = [some (.dat (.int (n : Int))), some (.dat (.int (m : Int))), some (.dat (dM S)), some (.dat (dV ws)), some (.dat (.list ((lsum n m S ws).map .int))), o5, o6, none, none]) (sd_for (items := S.zip ws) (enc := fun q => .tuple [dV q.1, .int q.2]) (en := fun q ρ => (ρ.set 5 (some (.dat (dV q.1)))).set 6 (some (.dat (.int q.2)))) (js := [5, 6]) (fun i ρ' => ∃ o5 o6, ρ' = [some (.dat (.int (n : Int))), some (.dat (.int (m : Int))), some (.dat (dM S)), some (.dat (dV ws)), some (.dat (.list ((fo i).map .int))), o5, o6, none, none]) rfl PassesOwn.never (it_zTT T.f_zip (ed_var 2 rfl) (ed_var 3 rfl)) (pg_tup rfl (pgs_cons (pg_name (i := 5) scN rfl (by first | exact Or.inl rfl | exact Or.inr rfl)) (pgs_cons (pg_name (i := 6) scN rfl (by first | exact Or.inl rfl | exact Or.inr rfl)) pgs_nil))) ⟨none, none, by rw [hfo]; rfl⟩ (fun i hi ρ' => tg_two) (fun i q ρ' hi hρ => ?_) (fun ρ' hρ => ?_)) (fun d v H' z => z.elim) (fun ρ' hK => ?_)
    · obtain ⟨o5, o6, rfl⟩ := hρ
      have hf := hg' i
      have hstep : ∀ tk1 : (S.zip ws).take (i + 1) = (S.zip ws).take i ++ [q], fo (i + 1) = stepS n (fo i) q.1 q.2 := fun tk1 => by rw [hfo, hfo, tk1, List.foldl_append]; rfl
      have tk1 : (S.zip ws).take (i + 1) = (S.zip ws).take i ++ [q] := by rw [List.take_succ, hi]; rfl
      have hq := List.of_mem_zip (List.mem_of_getElem? hi)
      have hq1 := hS _ hq.1
      have hq2 := hw _ hq.2
      have hst := hstep tk1
      generalize fo i = f at *
      have hfl := hf.1
      refine bd_ad 4 (d := .list ((stepS n f q.1 q.2).map .int)) (ad_eq (ad_lc (own := [("entry", 7), ("more", 8)]) (js := [7, 8]) rfl scN (it_zM (t1 := true) (t2 := false) (by decide) T.f_zip (ed_var 4 rfl) (ed_var 5 rfl)) (blkOk_by (N := ["width", "size", "vectors", "words", "found", "vector", "word", "entry", "more"]) (sc := (defScope s__law_sum)) (by decide +kernel)) (fun _ _ _ _ _ => pg_tup rfl (pgs_cons (pg_name (i := 7) scN rfl (by first | exact Or.inl rfl | exact Or.inr rfl)) (pgs_cons (pg_name (i := 8) scN rfl (by first | exact Or.inl rfl | exact Or.inr rfl)) pgs_nil))) (by decide) (fun i hi => tg_two) (fun s H C cl fp i hi => (ed_mod (ed_add (ed_var 7 rfl) (ed_mul (ed_var 6 rfl) (ed_var 8 rfl) ?_)) (ed_shl1 (ed_var 0 rfl) ?_) ?_)) ?_ ?_) ?_) (bd_nil ⟨some (.dat (dV q.1)), some (.dat (.int q.2)), by rw [hst]; rfl⟩)
      · have hi2 := (List.of_mem_zip ‹_›).2
        have hv := hq1.2 _ hi2
        exact mulx_ok (a := 20) (b := 20) (nab (by omega) (by omega)) (nab (by omega) (by omega)) (by decide)
      · omega
      · exact pow_pos2 n
      · exact fun _ _ => rfl
      · rw [List.length_zip]; omega
      · simp [stepS]
    · obtain ⟨o5, o6, rfl⟩ := hρ
      exact ⟨o5, o6, by rw [hfo, List.take_length]; rfl⟩
    · obtain ⟨o5, o6, rfl⟩ := hK
      exact rb_retX (ex_tupleX T.f_tuple (ed_var 4 rfl)) fun v H' e dv => kq v H' e dv
end
end K86
end
section
namespace K86
open PySem PySem.Spec PyProof.Rows L2 DL WM
section
variable {P : Program} {w : World} {K : PySem.W.Frag} {mg : Str → Option Value} {base : Heap}
abbrev R_law_all : RelF := fun ds P => ∃ n m : Nat, ds = [.int (n : Int), .int (m : Int)] ∧ (n ≤ 16 ∧ n * m ≤ 6 ∧ 1 ≤ n) ∧ P = (· = dLM (allV n m))
def extV (n : Nat) (v : List Int) : List (List Int) := (List.range (2 ^ n)).map fun x : Nat => v ++ [(x : Int)]
theorem allV_succ (n m : Nat) : allV n (m + 1) = (allV n m).flatMap (extV n) := rfl
theorem extV_len (n : Nat) (v : List Int) : (extV n v).length = 2 ^ n := by simp [extV]
theorem flatE_len (n : Nat) : ∀ L : List (List Int), (L.flatMap (extV n)).length = L.length * 2 ^ n
  | [] => by simp
  | v :: L => by rw [List.flatMap_cons, List.length_append, flatE_len n L, extV_len, List.length_cons, Nat.add_mul]; omega
theorem pow6 {n m : Nat} (h : n * m ≤ 6) : 2 ^ (n * m) ≤ 64 := Nat.pow_le_pow_right (by decide) h
theorem cal_law_all (T : Top K mg) : Cal P w K mg base 1 "_law_all" (spR K R_law_all) := by
  obtain ⟨fd, F⟩ := T.def_ i__law_all rfl
  have sc : FnScope ["width", "size", "found", "turn", "longer", "vector", "word"] ["width", "size"] (defScope s__law_all) := ⟨rfl, rfl, rfl, by decide +kernel, rfl, by decide +kernel, by decide +kernel⟩
  have scN := sc.nd
  refine calRB (k := 0) F (T.glo j__law_all rfl) sc (fun _ _ _ _ _ _ us hl => match us, hl with | [_, _], _ => rfl) (fun ds P' h => ?_) (fun cd A0 outer s H E ds P' vs hr h hds => ?_)
  · obtain ⟨n, m, rfl, _⟩ := h
    rfl
  · obtain ⟨n, m, rfl, ⟨h1, h2, h3⟩, rfl⟩ := h
    have n16 := pow16 h1
    have m6 : m ≤ 6 := Nat.le_trans (Nat.le_mul_of_pos_left m h3) h2
    have n6 : 1 ≤ m → n ≤ 6 := fun hm => Nat.le_trans (Nat.le_mul_of_pos_right n hm) h2
    refine (?_ : RB _ H (rhoS ["width", "size", "found", "turn", "longer", "vector", "word"] [.dat (.int (n : Nat)), .dat (.int (m : Nat))]) _ _) _ H (env_startS (slAll_ds hds))
    refine rb_setL 2 (ds := [.tuple []]) (ea_cons (ed_tup ea_nil (by simp)) ea_nil) (by simp) (fun H1 l0 ys e1 hl0 hl1 dys => ?_) scN
    refine rb_for (items := List.range m) (enc := fun i => .int (i : Nat)) (en := fun i ρ => ρ.set 3 (some (.dat (.int (i : Nat))))) (js := [3]) (G := fun H2 => TK K H2)
      (W := fun H2 i F' ρ' => ∃ l ws o3 o4 o5 o6, ρ' = [some (.dat (.int (n : Nat))), some (.dat (.int (m : Nat))), some (.val (.ref l)), o3, o4, o5, o6] ∧ immRX K ρ' ∧ F' l = some (.lst ws) ∧ DpAll K F' ws ((allV n i).map fun v => dV v) ∧ TK K H2 F' ∧ Same H F')
      rfl PassesOwn.never (im_rng1 T.f_range (ed_var 1 rfl) (by omega)) (pg_name (i := 3) scN rfl (by first | exact Or.inl rfl | exact Or.inr rfl)) (fun H2 e2 => ?_) (fun H2 i F' H' ρ' e2 hw e3 => ?_) (fun i hi ρ' => tg_name) (fun H2 i a F' ρ' e2 hi hw => ?_) (fun H2 F' ρ' e2 hw => ?_)
    · refine ⟨l0, ys, none, none, none, none, rfl, ?_, e2 _ _ hl1, dpA_mono e2 dys, TK.refl _, e1.trans e2⟩
      exact (immRX_S (immRX_cons (.inl rfl) (immRX_cons (.inl rfl) immRX_nil))).set (.inl rfl)
    · obtain ⟨l, ws, o3, o4, o5, o6, rfl, hi, hl, hd, t, s⟩ := hw
      exact t.trans (TK.of e3)
    · obtain ⟨l, ws, o3, o4, o5, o6, rfl, hrx, hl, hd, t, s⟩ := hw
      have ham := List.mem_range.mp (List.mem_of_getElem? hi)
      have hai : a = i := by have h := hi; rw [List.getElem?_eq_getElem (by rw [List.length_range]; have := (List.getElem?_eq_some_iff.mp h).1; rw [List.length_range] at this; exact this)] at h; simp at h; omega
      subst hai
      have im1 := hrx.set (i := 3) (x := .dat (.int (a : Nat))) (.inl rfl)
      have n6' := n6 (by omega)
      have hle1 : 2 ^ (n * (a + 1)) ≤ 64 := Nat.le_trans (Nat.pow_le_pow_right (by decide) (Nat.mul_le_mul_left n (by omega))) (pow6 h2)
      have hle2 : (allV n a).length * 2 ^ n ≤ 64 := by rw [allV_len, ← Nat.pow_add]; exact hle1
      refine rb_setL 4 (ds := []) ea_nil (by simp) (fun H3 l2 zs e3 hf2 hl2 dzs => ?_) scN
      obtain rfl : zs = [] := by cases dzs; rfl
      have nl : l ≠ l2 := ne_of_none hl hf2
      have hH2 : H l2 = none := none_of (s.trans e3 |> fun _ => s) hf2
      have im2 := im1.set (i := 4) (x := .val (.ref l2)) (.inl rfl)
      refine rb_for (items := allV n a) (enc := fun v => dV v) (en := fun v ρ => ρ.set 5 (some (.dat (dV v)))) (js := [5]) (G := fun H4 H5 => TK K H4 H5 ∧ H5 l = some (.lst ws))
        (W := fun H4 j F2 ρ2 => ∃ xs o5 o6, ρ2 = [some (.dat (.int (n : Nat))), some (.dat (.int (m : Nat))), some (.val (.ref l)), some (.dat (.int (a : Nat))), some (.val (.ref l2)), o5, o6] ∧ immRX K ρ2 ∧ F2 l2 = some (.lst xs) ∧ DpAll K F2 xs ((((allV n a).take j).flatMap (extV n)).map fun v => dV v) ∧ F2 l = some (.lst ws) ∧ TK K H4 F2 ∧ TK K H3 F2 ∧ Same H F2)
        rfl PassesOwn.never (im_lstV (ev_var 2 rfl) (e3 _ _ hl) (dpA_mono e3 hd) (fun d hd' => ?_)) (pg_name (i := 5) scN rfl (by first | exact Or.inl rfl | exact Or.inr rfl)) (fun H4 e4 => ?_) (fun H4 j F2 H' ρ2 e4 hw e5 => ?_) (fun i hi ρ' => tg_name) (fun H4 j v F2 ρ2 e4 hj hw => ?_) (fun H4 F2 ρ2 e4 hw => ?_)
      · obtain ⟨v, _, rfl⟩ := List.mem_map.mp hd'
        exact imm_dV v
      · exact ⟨[], o5, o6, rfl, im2, e4 _ _ hl2, .nil, e4 _ _ (e3 _ _ hl), TK.refl _, TK.of e4, (s.trans e3).trans e4⟩
      · obtain ⟨xs, o5, o6, rfl, hrx2, hx, hdx, hl4, t4, t3, s4⟩ := hw
        exact ⟨t4.trans (TK.of e5), e5 _ _ hl4⟩
      · obtain ⟨xs, o5, o6, rfl, hrx2, hx, hdx, hl4, t4, t3, s4⟩ := hw
        have im3 := hrx2.set (i := 5) (x := .dat (dV v)) (.inl (imm_dV v))
        have hlx := dpA_len hdx
        have htk : (((allV n a).take j).flatMap (extV n)).length + 2 ^ n ≤ 64 := by
          have hj2 := (List.getElem?_eq_some_iff.mp hj).1
          rw [flatE_len, List.length_take, Nat.min_eq_left (by omega)]
          have : (j + 1) * 2 ^ n ≤ (allV n a).length * 2 ^ n := Nat.mul_le_mul_right _ (by omega)
          rw [Nat.add_mul] at this
          omega
        refine rb_extend (ds := (extV n v).map fun v => dV v) (ev_var 4 rfl) hx (el_eq (xl_lc (own := [("word", 6)]) (js := [6]) rfl scN (it_rng1 T.f_range (ed_shl1 (ed_var 0 rfl) ?_) ?_) (blkOk_by (N := ["width", "size", "found", "turn", "longer", "vector", "word"]) (sc := (defScope s__law_all)) (by decide +kernel)) (fun _ _ _ _ _ => pg_name (i := 6) scN rfl (by first | exact Or.inl rfl | exact Or.inr rfl)) (by decide) (fun i hi => tg_name) (fun s H C cl fp i hi => (ed_cat (ed_var 5 rfl) (ed_tup (ea_cons (ed_var 6 rfl) ea_nil) (by first | decide | simp)) ?_)) ?_ ?_) ?_) ?_ ?_ im3 (fun F3 ys kp ti hx3 hys => ?_)
        · omega
        · exact Nat.le_trans (show 2 ^ n ≤ 64 by omega) (by decide)
        · have := (allV_mem.mp (List.mem_of_getElem? hj)).1
          simp; omega
        · exact fun x _ => imm_tup fun d hd => by
            rcases List.mem_append.mp hd with z | z
            · obtain ⟨y, _, rfl⟩ := List.mem_map.mp z; rfl
            · rw [List.mem_singleton.mp z]; rfl
        · rw [List.length_range]; exact Nat.le_trans (show 2 ^ n ≤ 64 by omega) (by decide)
        · rw [extV, List.map_map]
          exact List.map_congr_left fun x _ => by simp
        · rw [hlx, List.length_map, List.length_map, extV_len]; omega
        · exact immL_iff.mpr fun d hd => by obtain ⟨y, _, rfl⟩ := List.mem_map.mp hd; exact imm_dV y
        · have nl2 : ∀ o, H l2 = some o → False := fun o h => by rw [hH2] at h; cases h
          refine rb_nil fun σ9 H9 E9 => ⟨F3, _, ⟨xs ++ ys, some (.dat (dV v)), o6, rfl, im3, hx3, ?_, kp _ _ hl4 (fun z => nl z), t4.trans ti.1, t3.trans ti.1, ?_⟩, E9⟩
          · have tk1 : (allV n a).take (j + 1) = (allV n a).take j ++ [v] := by rw [List.take_succ, hj]; rfl
            rw [tk1, List.flatMap_append, List.map_append]
            refine dpA_app (dpA_tk ti.1 _ (immL_iff.mpr fun d hd => ?_) hdx) ?_
            · obtain ⟨y, _, rfl⟩ := List.mem_map.mp hd; exact imm_dV y
            · have hys' : DpAll K F3 ys ((extV n v).map fun v => dV v) := hys
              simpa using hys'
          · exact fun b o hb => kp _ _ (s4 _ _ hb) (fun z => by subst z; exact nl2 _ hb)
      · obtain ⟨xs, o5, o6, rfl, hrx2, hx, hdx, hl4, t4, t3, s4⟩ := hw
        rw [List.take_length] at hdx
        refine rb_setV 2 (v := .ref l2) (ev_var 4 rfl) ?_ scN
        refine rb_nil fun σ9 H9 E9 => ⟨F2, _, ⟨l2, xs, _, _, _, _, rfl, hrx2.set (i := 2) (x := .val (.ref l2)) (.inl rfl), hx, hdx, ?_, s4⟩, E9⟩
        exact (t.trans (TK.of e3)).trans t3
    · obtain ⟨l, ws, o3, o4, o5, o6, rfl, hrx, hl, hd, t, s⟩ := hw
      rw [List.length_range] at *
      refine rb_ret (ed_ev (ev_var 2 rfl) (.lst (SqL.of hl) hd)) fun v9 H9 e9 dv9 => ⟨_, rfl, s.trans e9, dv9⟩
end
end K86
end
section
namespace K86
open PySem PySem.Spec PyProof.Rows L2 DL WM
section
variable {P : Program} {w : World} {K : PySem.W.Frag} {mg : Str → Option Value} {base : Heap}
abbrev R_law_force_right : RelF := fun ds P => ∃ (n m : Nat) (S : List (List Int)), ds = [.int (n : Int), .int (m : Int), dM S] ∧ LawC n m ∧ n * m ≤ 6 ∧ S.length ≤ 100 ∧ (∀ v ∈ S, IsVec n m v) ∧ P = (· = .bool true)
theorem keep_sk {q : Addr} {H H' : Hp} {L : List (List Int)} (h : DK H q L) (k : Keep (· = q) H H') : SK H H' := ⟨_, k, fun b e => by obtain ⟨kvs, h1, _⟩ := h; rw [show b = q from e, h1]; trivial⟩
theorem cal_law_force_right (T : Top K mg) : Cal P w K mg base 13 "_law_force_right" (spR K R_law_force_right) := by
  obtain ⟨fd, F⟩ := T.def_ i__law_force_right rfl
  have sc : FnScope ["width", "size", "vectors", "reached", "vector", "word", "other", "module", "zero"] ["width", "size", "vectors"] (defScope s__law_force_right) := ⟨rfl, rfl, rfl, by decide +kernel, rfl, by decide +kernel, by decide +kernel⟩
  have scN := sc.nd
  refine calRB (k := 12) F (T.glo j__law_force_right rfl) sc (fun _ _ _ _ _ _ us hl => match us, hl with | [_, _, _], _ => rfl) (fun ds P' h => ?_) (fun cd A0 outer s H E ds P' vs hr h hds => ?_)
  · obtain ⟨n, m, S, rfl, _⟩ := h
    rfl
  · obtain ⟨n, m, S, rfl, hc, h6, hSl, hS, rfl⟩ := h
    obtain ⟨c1, c2, c3⟩ := id hc
    have n16 := pow16 c1.2
    refine (?_ : RB _ H (rhoS ["width", "size", "vectors", "reached", "vector", "word", "other", "module", "zero"] [.dat (.int (n : Nat)), .dat (.int (m : Nat)), .dat (dM S)]) _ _) _ H (env_startS (slAll_ds hds))
    have im0 : immRX K (rhoS ["width", "size", "vectors", "reached", "vector", "word", "other", "module", "zero"] [.dat (.int (n : Nat)), .dat (.int (m : Nat)), .dat (dM S)]) := immRX_S (immRX_cons (.inl rfl) (immRX_cons (.inl rfl) (immRX_cons (.inl (imm_dM S)) immRX_nil)))
    refine rb_setW 3 (fun σ1 H1 E1 => we_disp1 (Room.u1 hr) (ex_rep (k := m) (ex_tup1 ed_int) (ed_var 1 rfl) ⟨by omega, by omega⟩) ed_bl E1 (fun q H2 e2 hq hd => ⟨H2, .val (.ref q), ?_, (E1.mono e2).anchor, rfl⟩)) scN
    have hq0 : H q = none := none_of E1.2.2 hq
    have e02 : Same H H2 := E1.2.2.trans e2
    clear E1 σ1
    have pw6 := pow6 h6
    have n6 : n ≤ 6 := Nat.le_trans (Nat.le_mul_of_pos_right n (by omega)) h6
    have hpn : 2 ^ n ≤ 64 := Nat.pow_le_pow_right (by decide) n6
    have cst : ((2 ^ n : Nat) : Int) = (2 : Int) ^ n := by simp
    have im1 := im0.set (i := 3) (x := .val (.ref q)) (.inl rfl)
    refine rb_for (items := S) (enc := fun v => dV v) (en := fun v ρ => ρ.set 4 (some (.dat (dV v)))) (js := [4]) (G := fun H3 => TK K H3)
      (W := fun H3 i F' ρ' => ∃ o4 o5 o6 L, ρ' = [some (.dat (.int (n : Nat))), some (.dat (.int (m : Nat))), some (.dat (dM S)), some (.val (.ref q)), o4, o5, o6, none, none] ∧ immRX K ρ' ∧ DK F' q L ∧ Snd n m (S.take i) L ∧ Cmp n m (S.take i) L ∧ Keep (· = q) H3 F' ∧ Keep (· = q) H2 F')
      rfl PassesOwn.never (im_tup (ed_var 2 rfl) (fun d hd' => ?_)) (pg_name (i := 4) scN rfl (by first | exact Or.inl rfl | exact Or.inr rfl)) (fun H3 e3 => ?_) (fun H3 i F' H' ρ' e3 hw e4 => ?_) (fun i hi ρ' => tg_name) (fun H3 i v F' ρ' e3 hi hw => ?_) (fun H3 F' ρ' e3 hw => ?_)
    · obtain ⟨v, _, rfl⟩ := List.mem_map.mp hd'
      exact imm_dV v
    · exact ⟨none, none, none, _, rfl, im1, hd.same e3, rch0.1, rch0.2, Keep.of (Same.refl _), Keep.of e3⟩
    · obtain ⟨o4, o5, o6, L, rfl, hrx, hdk, hs, hcm, k3, k2⟩ := hw
      exact ((keep_sk (hd.same e3) k3).tk (K := K)).trans (TK.of e4)
    · obtain ⟨o4, o5, o6, L, rfl, hrx, hdk, hs, hcm, k3, k2⟩ := hw
      have tk1 : S.take (i + 1) = S.take i ++ [v] := by rw [List.take_succ, hi]; rfl
      have hv := hS v (List.mem_of_getElem? hi)
      have im2 := hrx.set (i := 4) (x := .dat (dV v)) (.inl (imm_dV v))
      refine rb_for (items := List.range (2 ^ n)) (enc := fun i => .int (i : Nat)) (en := fun i ρ => ρ.set 5 (some (.dat (.int (i : Nat))))) (js := [5]) (G := fun H4 => TK K H4)
        (W := fun H4 j F2 ρ2 => ∃ o5 o6 L2, ρ2 = [some (.dat (.int (n : Nat))), some (.dat (.int (m : Nat))), some (.dat (dM S)), some (.val (.ref q)), some (.dat (dV v)), o5, o6, none, none] ∧ immRX K ρ2 ∧ DK F2 q L2 ∧ Snd n m (S.take i ++ [v]) L2 ∧ Cmp n m (S.take i) L2 ∧ Wds n m (S.take i) v j L2 ∧ Keep (· = q) H4 F2 ∧ Keep (· = q) F' F2)
        rfl PassesOwn.never (im_rng1 T.f_range (ed_eq (ed_shl1 (ed_var 0 rfl) ?_) (by simp)) (Nat.le_trans hpn (by decide))) (pg_name (i := 5) scN rfl (by first | exact Or.inl rfl | exact Or.inr rfl)) (fun H4 e4 => ?_) (fun H4 j F2 H' ρ2 e4 hw e5 => ?_) (fun i hi ρ' => tg_name) (fun H4 j a F2 ρ2 e4 hj hw => ?_) (fun H4 F2 ρ2 e4 hw => ?_)
      · omega
      · exact ⟨o5, o6, L, rfl, im2, hdk.same e4, hs.mono fun x hx => List.mem_append_left _ hx, hcm, fun x _ _ k hk => absurd hk (Nat.not_lt_zero k), Keep.of (Same.refl _), Keep.of e4⟩
      · obtain ⟨o5, o6, L2, rfl, hrx2, hdk2, hs2, hcm2, hwd2, k4, kF⟩ := hw
        exact ((keep_sk (hdk.same e4) k4).tk (K := K)).trans (TK.of e5)
      · obtain ⟨o5, o6, L2, rfl, hrx2, hdk2, hs2, hcm2, hwd2, k4, kF⟩ := hw
        have ham := List.mem_range.mp (List.mem_of_getElem? hj)
        have haj : a = j := by have h := hj; rw [List.getElem?_eq_getElem (by rw [List.length_range]; have := (List.getElem?_eq_some_iff.mp h).1; rw [List.length_range] at this; exact this)] at h; simp at h; omega
        subst haj
        have hlL := hs2.len
        have im3 := hrx2.set (i := 5) (x := .dat (.int (a : Nat))) (.inl rfl)
        refine rb_for (items := L2) (enc := fun v => dV v) (en := fun v ρ => ρ.set 6 (some (.dat (dV v)))) (js := [6]) (G := fun H5 => SK H5)
          (W := fun H5 t F3 ρ3 => ∃ o6 L3, ρ3 = [some (.dat (.int (n : Nat))), some (.dat (.int (m : Nat))), some (.dat (dM S)), some (.val (.ref q)), some (.dat (dV v)), some (.dat (.int (a : Nat))), o6, none, none] ∧ immRX K ρ3 ∧ DK F3 q L3 ∧ Snd n m (S.take i ++ [v]) L3 ∧ (∀ x ∈ L2, x ∈ L3) ∧ (∀ x ∈ L2.take t, lsum n m [x, v] [1, (a : Int)] ∈ L3) ∧ Keep (· = q) H5 F3 ∧ Keep (· = q) F2 F3)
          rfl PassesOwn.never (im_lst (ed_listDK rfl T.f_list (ev_var 3 rfl) hdk2) (fun d hd' => ?_)) (pg_name (i := 6) scN rfl (by first | exact Or.inl rfl | exact Or.inr rfl)) (fun H5 e5 => ?_) (fun H5 t F3 H' ρ3 e5 hw e6 => ?_) (fun i hi ρ' => tg_name) (fun H5 t y F3 ρ3 e5 ht hw => ?_) (fun H5 F3 ρ3 e5 hw => ?_)
        · obtain ⟨v, _, rfl⟩ := List.mem_map.mp hd'
          exact imm_dV v
        · exact ⟨o6, L2, rfl, im3, hdk2.same e5, hs2, fun x hx => hx, fun x hx => by rw [List.take_zero] at hx; exact (nomatch hx), Keep.of (Same.refl _), Keep.of e5⟩
        · obtain ⟨o6, L3, rfl, hrx3, hdk3, hs3, hsub, hwd3, k5, kF2⟩ := hw
          exact (keep_sk (hdk2.same e5) k5).same e6
        · obtain ⟨o6, L3, rfl, hrx3, hdk3, hs3, hsub, hwd3, k5, kF2⟩ := hw
          have hy := hsub y (List.mem_of_getElem? ht)
          have hyv := (hs3.2 y hy).1
          have tk2 : L2.take (t + 1) = L2.take t ++ [y] := by rw [List.take_succ, ht]; rfl
          have im4 := hrx3.set (i := 6) (x := .dat (dV y)) (.inl (imm_dV y))
          have hl3 := hs3.len
          refine rb_dput (ns := lsum n m [y, v] [1, (a : Int)]) (Room.u1 hr) (ev_var 3 rfl) hdk3 (by omega) (ex_callX (cal_law_sumX T) hr (by decide) (eas_cons (ed_var 0 rfl) (eas_cons (ed_var 1 rfl) (eas_cons (ed_eq (ed_tup (ea_cons (ed_var 6 rfl) (ea_cons (ed_var 4 rfl) ea_nil)) (by first | decide | simp)) (show PyData.tuple [dV y, dV v] = dM [y, v] from rfl)) (eas_cons (ed_eq (ed_tup (ea_cons ed_int (ea_cons (ed_var 5 rfl) ea_nil)) (by first | decide | simp)) (show PyData.tuple [.int 1, .int (a : Nat)] = dV [1, (a : Int)] from rfl)) eas_nil)))) ⟨n, m, [y, v], [1, (a : Int)], rfl, ⟨c1.2, by omega⟩, fun x hx => ?_, fun x hx => ?_, rfl⟩) ed_bl im4 (fun F4 kp ti hd4 => ?_)
          · simp at hx
            rcases hx with rfl | rfl <;> assumption
          · simp at hx
            have : 2 ^ 1 ≤ 2 ^ n := Nat.pow_le_pow_right (by decide) c1.1
            rcases hx with rfl | rfl <;> omega
          · refine rb_nil fun σ9 H9 E9 => ⟨F4, _, ⟨_, _, rfl, im4, hd4, hs3.add hy hv.1, fun x hx => addL_mem.mpr (.inl (hsub x hx)), fun x hx => ?_, k5.trans kp, kF2.trans kp⟩, E9⟩
            rw [tk2] at hx
            rcases List.mem_append.mp hx with z | z
            · exact addL_mem.mpr (.inl (hwd3 x z))
            · rw [List.mem_singleton.mp z]; exact addL_mem.mpr (.inr rfl)
        · obtain ⟨o6, L3, rfl, hrx3, hdk3, hs3, hsub, hwd3, k5, kF2⟩ := hw
          rw [List.take_length] at hwd3
          refine rb_nil fun σ9 H9 E9 => ⟨F3, _, ⟨_, _, _, rfl, hrx3, hdk3, hs3, fun x hx hs => hsub x (hcm2 x hx hs), fun x hx hs k hk => ?_, k4.trans kF2, kF.trans kF2⟩, E9⟩
          by_cases hka : k = a
          · subst hka; exact hwd3 x (hcm2 x hx hs)
          · exact hsub _ (hwd2 x hx hs k (by omega))
      · obtain ⟨o5, o6, L2, rfl, hrx2, hdk2, hs2, hcm2, hwd2, k4, kF⟩ := hw
        rw [List.length_range] at *
        refine rb_nil fun σ9 H9 E9 => ⟨F2, _, ⟨_, o5, o6, L2, rfl, hrx2, hdk2, by rw [tk1]; exact hs2, by rw [tk1]; exact Wds.done hs2 hwd2 hv, k3.trans kF, k2.trans kF⟩, E9⟩
    · obtain ⟨o4, o5, o6, L, rfl, hrx, hdk, hs, hcm, k3, k2⟩ := hw
      rw [List.take_length] at hs hcm
      have hB := basF_ok hS
      have hA := (annB_ok (by omega) hB.1.1).1
      have hsF : Same H F' := fun b o hb => k2 _ _ (e02 _ _ hb) (fun z => by rw [show b = q from z, hq0] at hb; cases hb)
      obtain ⟨r1, r2⟩ := rch_mem hS hs hcm
      have r3 := ann_mem (m := m) (by omega : 0 < n) hS
      have hlL := hs.len
      have hcB : cntP n (basF n m S) 1 ≤ 1000 := by rw [← r2]; omega
      have hcA : cntP n (annB n m (basF n m S)) 1 ≤ 1000 := by
        rw [← (memF_ok hA).2.2.2]
        have := mem_len hA
        omega
      obtain ⟨fdg, psg, FG, bng⟩ := gfn_members (P := P) (w := w) (base := base) T
      obtain ⟨fdb, psb, FOb, bnb⟩ := fn_basis (P := P) (w := w) (base := base) T
      refine rb_setX 7 (r := sMo K (mC K) n m (basF n m S)) (ex_callX (cal_law_space T) hr (by decide) (eas_cons (ed_var 0 rfl) (eas_cons (ed_var 1 rfl) (eas_cons (ed_var 2 rfl) eas_nil))) ⟨n, m, S, rfl, hc, hSl, hS, rfl⟩) ?_ scN
      have hne : ∀ r ∈ L, r ≠ [] := fun r hr' z => by
        have := (hs.2 r hr').1.1
        rw [z] at this
        simp at this
        omega
      have encLMs := encV.lst
      refine rb_skip (td_neD hr.units (ed_listG (nm := "list") (ds := (sortV (memF n m (basF n m S))).map fun r => dV r) (ex_var 7 rfl) T.Module_c T.Module_m_members FG bng hr (by decide) (fun x H cont hx k => ⟨n, m, _, .cons hx .nil, hc, hB.1, hcB, k⟩) (fun _ => rfl) T.f_list (by decide +kernel)) (ed_sortedDK rfl T.f_sorted hr.units (ev_var 3 rfl) hdk hne (by omega)) ?_ ?_) ?_ ?_
      · exact encLMs.shaped (by decide) _
      · exact encLMs.shaped (by decide) _
      · rw [r1, encLMs.dec]; simp
      refine rb_ad 8 (d := .list (((allV n m).filter fun v => isZ n [v] S).map fun v => dV v)) (ad_lcIf (own := [("vector", 4)]) (js := [4]) rfl scN (it_lst (ed_call (cal_law_all T) hr (by decide) (ea_cons (ed_var 0 rfl) (ea_cons (ed_var 1 rfl) ea_nil)) ⟨_, _, rfl, ?_, rfl⟩)) (blkOk_by (N := ["width", "size", "vectors", "reached", "vector", "word", "other", "module", "zero"]) (sc := (defScope s__law_force_right)) (by decide +kernel)) (fun _ _ _ _ _ => pg_name (i := 4) scN rfl (by first | exact Or.inl rfl | exact Or.inr rfl)) (by decide) (fun i hi => tg_name) (fun s H C cl fp i hi => (td_val (ed_call (cal_law_is_zero T) hr (by decide) (ea_cons (ed_var 0 rfl) (ea_cons (ed_eq (ed_tup (ea_cons (ed_var 4 rfl) ea_nil) (by first | decide | simp)) (show PyData.tuple [dV i] = dM [i] from rfl)) (ea_cons (ed_var 2 rfl) ea_nil))) ⟨_, m, _, _, rfl, ?_, ?_, rfl⟩))) (fun s H C cl fp i hi hp => (ed_var 4 rfl)) ?_ ?_) ?_
      · exact ⟨c1.2, h6, c1.1⟩
      · exact ⟨c1.2, by omega, by simp, by omega⟩
      · exact ⟨fun x hx => by rw [List.mem_singleton.mp hx]; exact allV_mem.mp hi, hS⟩
      · exact fun i _ => imm_dV i
      · rw [allV_len]; exact Nat.le_trans pw6 (by decide)
      refine rb_ret (d := .bool true) (ed_eq (ed_andV (ed_eqD hr.units (ed_listG (nm := "list") (ds := (sortV (memF n m (annB n m (basF n m S)))).map fun r => dV r) (ex_meth0 (met_dual T) hr (by decide) (ex_var 7 rfl) ⟨n, m, _, rfl, hc, hB.1, rfl⟩) T.Module_c T.Module_m_members FG bng hr (by decide) (fun x H cont hx k => ⟨n, m, _, .cons hx .nil, hc, hA, hcA, k⟩) (fun _ => rfl) T.f_list (by decide +kernel)) (ed_var 8 rfl) ?_ ?_) fun hb => (ed_oneV (ed_eqI (ed_call (cal_member_count T) hr (by decide) (ea_cons (ed_var 0 rfl) (ea_cons (ed_var 1 rfl) (ea_cons (ed_moprop (ex_var 7 rfl) T.Module_c T.basisProp FOb ⟨n, m, _, rfl, rfl⟩ bnb hr (by decide)) ea_nil))) ⟨_, _, _, rfl, ?_, ?_, rfl⟩) (ed_lenDK T.f_len (ev_var 3 rfl) hdk)))) ?_) fun v9 H9 e9 dv9 => ⟨_, rfl, hsF.trans e9, dv9⟩
      · exact encLMs.shaped (by decide) _
      · exact encLMs.shaped (by decide) _
      · exact ⟨c1, c2, by omega⟩
      · exact hB.1
      · rw [r3, encLMs.dec, cntB_eq hB.1, r2]; simp
end
end K86
end
section
namespace K86
open PySem PySem.Spec PyProof.Rows L2 DL WM
theorem forgetE {K : PySem.W.Frag} {F H : Hp} {σ : L2.St} {ρ ρ' : Rho} (h : EnvOk K F H σ ρ) (hl : ρ'.length = ρ.length) (hs : ∀ (i : Nat) (d : Slot), ρ'[i]? = some (some d) → ρ[i]? = some (some d)) : EnvOk K F H σ ρ' :=
  ⟨hl.trans h.1, fun i d hd => h.2.1 i d (hs i d hd), h.2.2⟩
section
variable {P : Program} {w : World} {K : PySem.W.Frag} {mg : Str → Option Value} {base : Heap}
def spLaw (K : PySem.W.Frag) : Sp := fun vs H Q _ => ∃ (a : Addr) (ns : List Int), vs = [.ref a] ∧ SqL K H a (ns.map V.int) ∧ ∀ H', Q (.bl true) H'
theorem fn_law (T : Top K mg) {fd : FuncData} (F : FunD K d_law.name d_law.qual d_law.params d_law.body d_law.scope (d_law.dvs K) (d_law.kws K) (d_law.at_ K) fd) : FnOk P w K mg base CX0 15 (d_law.at_ K) fd ["script"] (spLaw K) := by
  have sc : FnScope ["script", "k", "stream", "width", "size", "some", "bases", "turn", "vectors"] ["script"] (defScope s_law) := ⟨rfl, rfl, rfl, by decide +kernel, rfl, by decide +kernel, by decide +kernel⟩
  have scN := sc.nd
  refine fnB (k := 14) F sc (fun vs H Q E h => ?_) (fun cd A outer s H vs Q E hr h => ?_)
  · obtain ⟨sa, ns, rfl, _⟩ := h
    rfl
  · obtain ⟨sa, ns, rfl, hs, K1⟩ := h
    have hsd : Dp K H (.ref sa) (.list (ns.map .int)) := .lst hs (ints_dpA ns)
    refine (?_ : RB _ H (rhoS ["script", "k", "stream", "width", "size", "some", "bases", "turn", "vectors"] [.val (.ref sa)]) _ _) _ H (env_startS (.cons rfl .nil))
    refine rb_for (items := List.range (max 1 (min 6 ns.length))) (enc := fun i => .int (i : Nat)) (en := fun i ρ => ρ.set 1 (some (.dat (.int (i : Nat))))) (js := [1]) (G := fun H2 => TK K H2)
      (W := fun H2 i F' ρ' => ρ' = [some (.val (.ref sa)), none, none, none, none, none, none, none, none] ∧ SqL K F' sa (ns.map V.int) ∧ TK K H2 F')
      rfl PassesOwn.never (im_rng1 T.f_range (ed_eq (ed_max2 T.f_max rfl ed_int (ed_min2 T.f_min rfl ed_int (ed_lenL T.f_len (ed_ev (ev_var 0 rfl) hsd)))) ?_) (by omega)) (pg_name (i := 1) scN rfl (by first | exact Or.inl rfl | exact Or.inr rfl)) (fun H2 e2 => ?_) (fun H2 i F' H' ρ' e2 hw e3 => ?_) (fun i hi ρ' => tg_name) (fun H2 i a F' ρ' e2 hi hw => ?_) (fun H2 F' ρ' e2 hw => ?_)
    · rw [List.length_map]
      refine congrArg PyData.int ?_
      split <;> split <;> omega
    · exact ⟨rfl, e2.seq hs, TK.refl _⟩
    · exact hw.2.2.trans (TK.of e3)
    · obtain ⟨rfl, hsF, t2⟩ := hw
      have ha6 : a < 6 + 1 := by have := List.mem_range.mp (List.mem_of_getElem? hi); omega
      refine rb_setW 2 (fun σ1 H1 E1 => by
        refine ofE (pe_cal (cal_law_stream T) hr (by decide) rfl pa_w (by decide) rfl rfl) ?_
        refine (eas_consV (ev_var 0 rfl) (eas_cons (ed_var 1 rfl) eas_nil)) σ1 H1 _ E1 fun vs H3 e3 dvs => ?_
        cases dvs with
        | cons h1 h2 =>
        cases h2 with
        | cons h2 h3 =>
        cases h3
        cases h1
        have h2' := dp_int h2
        subst h2'
        refine ⟨sa, ns, a, rfl, ((E1.mono e3).2.2).seq hsF, by omega, fun st H4 e4 hn hst => ⟨H4, .val (.ref st), ?_, ((E1.mono e3).mono e4).anchor, rfl⟩⟩
        have t4 : TK K H2 H4 := t2.trans (TK.of (((E1.mono e3).mono e4).2.2))
        have s4 : SqL K H4 sa (ns.map V.int) := ((E1.mono e3).mono e4).2.2.seq hsF
        have s5 : SqL K (hole H4 st) sa (ns.map V.int) := sqL_keep (((E1.mono e3).2.2).seq hsF) (fun b o hb n => by rw [hole_ne n]; exact e4 _ _ hb) (.inl hn)
        have t5 : TK K H2 (hole H4 st) := t4.trans (hst.ti hole_keep : TI K H4 (hole H4 st)).1
        have im0 : immRX K ([some (.val (.ref sa)), some (.dat (.int (a : Nat))), some (.val (.ref st)), none, none, none, none, none, none] : Rho) := (immRX_S (N := ["script", "k", "stream", "width", "size", "some", "bases", "turn", "vectors"]) (immRX_cons (.inl rfl) (immRX_cons (.inl rfl) (immRX_cons (.inl rfl) immRX_nil))) : immRX K (rhoS ["script", "k", "stream", "width", "size", "some", "bases", "turn", "vectors"] [.val (.ref sa), .dat (.int (a : Nat)), .val (.ref st)]))
        clear E1
        refine rb_rs hst im0 ?_
        refine rs_asg2 3 4 (P1 := fun d => ∃ n : Nat, d = .int (n : Nat) ∧ 1 ≤ n ∧ n ≤ 16) (P2 := fun d => ∃ m : Nat, d = .int (m : Nat) ∧ 1 ≤ m ∧ m ≤ 5)
          (se_imp (se_ixL (sea_cons (se_ed ed_int) (sea_cons (se_ed ed_int) (sea_cons (se_ed ed_int) (sea_cons (se_ed ed_int) (sea_cons (se_ed ed_int) sea_nil imE) imE) imE) imE) imE)
            (se_imp (se_call 2 (cal_law_draw T) hr (by decide) rfl (ea_cons ed_int ea_nil) ⟨_, rfl, by decide, by decide +kernel, rfl⟩ (by omega)) (fun d ⟨r, e, h0, h1⟩ => ⟨r.toNat, by rw [e, Int.toNat_of_nonneg h0], by show r.toNat < 5; omega⟩) (Nat.le_refl _)) ?_ (by simp)) (fun d ⟨P1, hP, hd⟩ => ?_) (Nat.le_refl _))
          (se_imp (se_add (se_ed ed_int) (se_call 2 (cal_law_draw T) hr (by decide) rfl (ea_cons ed_int ea_nil) ⟨_, rfl, by decide, by decide +kernel, rfl⟩ (by omega)) (fun d h => ⟨_, h⟩) (fun d ⟨r, h, _⟩ => ⟨r, h⟩)) (fun d ⟨i, j, h1, ⟨r, h2, h3, h4⟩, h5⟩ => ?_) (Nat.le_refl _))
          (fun d ⟨n, h, _⟩ => by subst h; rfl) (fun d ⟨n, h, _⟩ => by subst h; rfl) (fun d1 d2 hd1 hd2 => ?_) rfl scN
        · intro P1 hP d hd
          simp only [List.mem_cons, List.not_mem_nil, or_false] at hP
          rcases hP with rfl | rfl | rfl | rfl | rfl
          all_goals (subst hd; rfl)
        · simp only [List.mem_cons, List.not_mem_nil, or_false] at hP
          rcases hP with rfl | rfl | rfl | rfl | rfl
          · exact ⟨1, hd, by decide, by decide⟩
          · exact ⟨2, hd, by decide, by decide⟩
          · exact ⟨3, hd, by decide, by decide⟩
          · exact ⟨4, hd, by decide, by decide⟩
          · exact ⟨16, hd, by decide, by decide⟩
        · injection h1 with h1
          injection h2 with h2
          subst h1 h2
          exact ⟨1 + j.toNat, by rw [h5]; congr 1; omega, by omega, by omega⟩
        obtain ⟨n, rfl, n1, n2⟩ := hd1
        obtain ⟨m, rfl, m1, m2⟩ := hd2
        have im1 := (im0.set (i := 3) (x := .dat (.int (n : Nat))) (.inl rfl)).set (i := 4) (x := .dat (.int (m : Nat))) (.inl rfl)
        have hlc : LawC n m := ⟨⟨n1, n2⟩, m1, by omega⟩
        refine rs_lcS (px := ⟨0, 0, 0, 0⟩) 5 (n := 3) (cst := 1000) (P := fun d => ∃ S, d = dM S ∧ S.length ≤ 4 ∧ ∀ v ∈ S, IsVec n m v) (own := [("turn", 7)]) (jn := 7) (ed_eq ed_int rfl) (by decide) (blkOk_by (N := ["script", "k", "stream", "width", "size", "some", "bases", "turn", "vectors"]) (sc := (defScope s_law)) (by decide +kernel)) (fun _ _ _ _ _ => pg_name (i := 7) scN rfl (by first | exact Or.inl rfl | exact Or.inr rfl)) (by decide) im1
          (fun s0 H0 C cl fp i N1 hi hN1 => se_call 2 (cal_law_vectors T) hr (by decide) rfl (ea_cons (ed_var 3 rfl) (ea_cons (ed_var 4 rfl) (ea_cons ed_int ea_nil))) ⟨n, m, 4, rfl, ⟨⟨n1, n2⟩, by omega, by decide⟩, rfl⟩ (by omega)) imM (fun ds F1 q hl hds s1 ha1 hdq => ?_) T.f_range rfl scN
        obtain ⟨S0, S1, S2, rfl, ⟨l0, h0⟩, ⟨l1, h1⟩, ⟨l2, h2⟩⟩ : ∃ S0 S1 S2, ds = [dM S0, dM S1, dM S2] ∧ (S0.length ≤ 4 ∧ ∀ v ∈ S0, IsVec n m v) ∧ (S1.length ≤ 4 ∧ ∀ v ∈ S1, IsVec n m v) ∧ (S2.length ≤ 4 ∧ ∀ v ∈ S2, IsVec n m v) := by
          match ds, hl, hds with
          | [d0, d1, d2], _, hds =>
            obtain ⟨S0, rfl, q0⟩ := hds d0 (by simp)
            obtain ⟨S1, rfl, q1⟩ := hds d1 (by simp)
            obtain ⟨S2, rfl, q2⟩ := hds d2 (by simp)
            exact ⟨S0, S1, S2, rfl, q0, q1, q2⟩
        have hdq' : Dp K F1 (.ref q) (.list (([S0, S1, S2] : List (List (List Int))).map fun D => dM D)) := hdq
        have him3 : immL [dM (basF n m S0), dM (basF n m S1), dM (basF n m S2)] = true := immL_iff.mpr fun d hd => by
          simp only [List.mem_cons, List.not_mem_nil, or_false] at hd
          rcases hd with rfl | rfl | rfl <;> exact imm_dM _
        refine rs_ad 6 (ds := [dM (basF n m S1), dM (basF n m S2)]) (t := (basF n m S0).map fun v => dV v) (ad_eq (ad_lc (own := [("vectors", 8)]) (js := [8]) rfl scN (it_lst (ed_ev (ev_var 5 rfl) hdq')) (blkOk_by (N := ["script", "k", "stream", "width", "size", "some", "bases", "turn", "vectors"]) (sc := (defScope s_law)) (by decide +kernel)) (fun _ _ _ _ _ => pg_name (i := 8) scN rfl (by first | exact Or.inl rfl | exact Or.inr rfl)) (by decide) (fun i hi => tg_name) (fun s H C cl fp i hi => (ed_call (cal_basis_of T) hr (by decide) (ea_cons (ed_var 3 rfl) (ea_cons (ed_var 4 rfl) (ea_cons (ed_var 8 rfl) ea_nil))) ⟨_, _, _, rfl, ?_, ?_, ?_, rfl⟩)) ?_ ?_) rfl) him3 (fun F2 q2 s2 ha2 hd2 => ?_)
        · exact ⟨hlc.1, hlc.2.1, by omega⟩
        · have : ‹List (List Int)› ∈ [S0, S1, S2] := ‹_›
          simp at this
          rcases this with rfl | rfl | rfl <;> omega
        · have : ‹List (List Int)› ∈ [S0, S1, S2] := ‹_›
          simp at this
          rcases this with rfl | rfl | rfl <;> assumption
        · exact fun _ _ => imm_dM _
        · simp
        have hB0 := (basF_ok h0).1
        have hB1 := (basF_ok h1).1
        have hB2 := (basF_ok h2).1
        have hdq2 := dp_mono s2 hdq'
        refine rs_skip (td_not (td_val (ed_call (cal_law_pairs_right T) hr (by decide) (ea_cons (ed_var 3 rfl) (ea_cons (ed_var 4 rfl) (ea_cons (ed_ixL (j := 0) (ed_ev (ev_var 6 rfl) hd2) ed_int rfl) (ea_cons (ed_ixL (j := 1) (ed_ev (ev_var 6 rfl) hd2) ed_int rfl) ea_nil)))) ⟨_, _, _, _, rfl, ?_, ?_, rfl⟩))) ?_ ?_
        · exact hlc
        · exact ⟨hB0, hB1⟩
        · rfl
        refine rs_skip (td_not (td_val (ed_call (cal_law_modular_right T) hr (by decide) (ea_cons (ed_var 3 rfl) (ea_cons (ed_var 4 rfl) (ea_cons (ed_ixL (j := 0) (ed_ev (ev_var 6 rfl) hd2) ed_int rfl) (ea_cons (ed_ixL (j := 1) (ed_ev (ev_var 6 rfl) hd2) ed_int rfl) (ea_cons (ed_ixL (j := 2) (ed_ev (ev_var 6 rfl) hd2) ed_int rfl) ea_nil))))) ⟨_, _, _, _, _, rfl, ?_, ?_, rfl⟩))) ?_ ?_
        · exact hlc
        · exact ⟨hB0, hB1, hB2⟩
        · rfl
        refine rs_skipOr (se_imp (se_call 2 (cal_law_solved_right T) hr (by decide) rfl (ea_cons (ed_var 3 rfl) (ea_cons (ed_var 4 rfl) ea_nil)) ⟨n, m, rfl, hlc, rfl⟩ (by omega)) (fun d h => h) (Nat.le_refl _)) (td_not (td_val (ed_call (cal_law_spaces_right T) hr (by decide) (ea_cons (ed_var 3 rfl) (ea_cons (ed_var 4 rfl) (ea_cons (ed_ixL (j := 0) (ed_ev (ev_var 5 rfl) hdq2) ed_int rfl) (ea_cons (ed_ixL (j := 1) (ed_ev (ev_var 5 rfl) hdq2) ed_int rfl) ea_nil)))) ⟨_, _, _, _, rfl, ?_, ?_, ?_, rfl⟩))) ?_ ?_
        · exact hlc
        · exact ⟨by omega, by omega⟩
        · exact ⟨h0, h1⟩
        · rfl
        refine rs_skip (td_w (tw_and (td_lt (ed_mul (ed_var 3 rfl) (ed_var 4 rfl) ?_) ed_int) fun hb => (tw_and1 (td_not (td_val (ed_call (cal_law_force_right T) hr (by decide) (ea_cons (ed_var 3 rfl) (ea_cons (ed_var 4 rfl) (ea_cons (ed_ixL (j := 2) (ed_ev (ev_var 5 rfl) hdq2) ed_int rfl) ea_nil))) ⟨_, _, _, rfl, ?_, ?_, ?_, ?_, rfl⟩)))))) ?_ ?_
        · exact mulx_ok (a := 5) (b := 5) (nab (by omega) (by omega)) (nab (by omega) (by omega)) (by decide)
        · exact hlc
        · have := of_decide_eq_true hb
          have e : ((n * m : Nat) : Int) = (n : Int) * m := by simp
          omega
        · omega
        · exact h2
        · simp
        refine rs_nil fun σ9 H9 E9 => ⟨H9, [some (.val (.ref sa)), none, none, none, none, none, none, none, none], ⟨rfl, (E9.env.2.2).seq (s2.seq (s1.seq s5)), ((t5.trans (TK.of s1)).trans (TK.of s2)).trans (TK.of E9.env.2.2)⟩, forgetE E9.env.anchor rfl (fun i d hd => ?_)⟩
        match i, hd with
        | 0, hd => exact hd
        | 1, hd => simp at hd
        | 2, hd => simp at hd
        | 3, hd => simp at hd
        | 4, hd => simp at hd
        | 5, hd => simp at hd
        | 6, hd => simp at hd
        | 7, hd => simp at hd
        | 8, hd => simp at hd
        | _ + 9, hd => simp at hd) scN
    · obtain ⟨rfl, hsF, t2⟩ := hw
      exact rb_ret ed_bl fun v H' e dv => by rw [dp_bl dv]; exact K1 H'
end
end K86
end
section
namespace K86
open PySem PySem.Spec PyProof.Rows L2 DL WM
def frees : List PySem.Str := ["isinstance", "all", "any", "tuple", "zip", "sum", "range", "sorted", "len", "int", "enumerate", "list", "max", "min", "abs", "bool"]
def exT (K : PySem.W.Frag) : Bool := ex K && (globs.all (fun x => (He.Fa.glo x).ok K) && (frees.all (fun x => (He.Fa.free x).ok K) && ((He.Fa.int "MAX_WIDTH" 16).ok K && (He.Fa.int "MAX_SIZE" 40).ok K)))
/-! ### the hook -/
abbrev AlM : Type := Bool × List He.FnW
def obsM (K : PySem.W.Frag) : AlM := (exT K && fn.all fun d => d.ok K, fn.map fun d => He5.fnA K (d.at_ K))
def valM : AlM := (true, fn.map He5.DefA.val)
def SaysM (K : PySem.W.Frag) : Prop := obsM K = valM
/-- what a thing of the top names; a code object's own table is not looked into -/
def refsM (o : Obj) : List Addr := match o.cls, o.data with
  | .none, _ => []
  | _, .dict es _ => es.toList.flatMap fun e => He.refV e.val
  | _, .func fd => He.refV fd.code
  | _, .cls cd => cd.ns :: cd.mro.flatMap He.refV
  | _, .fields vs => vs.toList.flatMap He.refV
  | _, _ => []
def stepM (g : Addr → Option Obj) (as : List Addr) : List Addr := as.flatMap fun a => match g a with
  | some o => refsM o
  | none => []
/-- the first as are new, the rest are there -/
def growM (g : Addr → Option Obj) : Nat → List Addr → List Addr
  | 0, as => as
  | n + 1, as => as ++ growM g n (stepM g as)
def obsMG (n : Nat) (g : Addr → Option Obj) : AlM := obsM (He.frG g (growM g n [mainGlobals] ++ [cStatics]))
def hookM (n : Nat) : PySem.W.Hook where
  α := AlM
  obs := fun s => obsMG n s.heap.get?
  val := fun _ => valM
  says := fun _ h => ∃ K : PySem.W.Frag, K.In h ∧ SaysM K
  of := fun _ _ e => ⟨_, He.frG_in, e⟩
  keeps := fun _ _ _ ⟨K, hK, c⟩ k => ⟨K, PySem.W.Frag.In.keeps hK k, c⟩
theorem obsMG_eq {n : Nat} {g : Addr → Option Obj} {s : Shared} (h : ∀ a, g a = s.heap.get? a) : obsMG n g = (hookM n).obs s := by
  have e : g = s.heap.get? := funext h
  rw [e] <;> rfl
theorem top_of {K : PySem.W.Frag} {h : Heap} {mg : Str → Option Value} (X : K.In h) (G : h.Ns mainGlobals mg) (c : SaysM K) : Top K mg := by
  have c1 : (exT K && fn.all fun d => d.ok K) = true := congrArg (fun z : AlM => z.1) c
  obtain ⟨c2, c3⟩ := He.ba c1
  obtain ⟨c4, c5⟩ := He.ba c2
  obtain ⟨c6, c7⟩ := He.ba c5
  obtain ⟨c8, c9⟩ := He.ba c7
  obtain ⟨c10, c11⟩ := He.ba c9
  have gl : ∀ x ∈ globs, mg x = some (.ref (He.ga K x)) := fun x hx => He.glo_ok X G (List.all_eq_true.mp c6 x hx)
  have fr : ∀ x ∈ frees, mg x = none := fun x hx => He.free_ok X G (List.all_eq_true.mp c8 x hx)
  refine ⟨fun i d hd => ?_, fun i x hx => gl x (List.mem_of_getElem? hx), ?_, ?_, ?_, ?_, ?_, ?_, ?_, ?_, ?_, ?_, ?_, ?_, ?_, ?_, ?_, ?_, He.int_ok X G c10, He.int_ok X G c11, c4⟩
  · have e : fn.map (fun d => He5.fnA K (d.at_ K)) = fn.map He5.DefA.val := congrArg (fun z : AlM => z.2) c
    have e2 : (fn.map fun d => He5.fnA K (d.at_ K))[i]? = (fn.map He5.DefA.val)[i]? := by rw [e]
    rw [List.getElem?_map, List.getElem?_map, hd] at e2
    exact He5.DefA.funD (Option.some.inj e2) (List.all_eq_true.mp c3 d (List.mem_of_getElem? hd))
  all_goals exact fr _ (by decide +kernel)
abbrev R : PySem.W.OpenRow := PySem.W.OpenLaw.row PySem.Challenge.rw_wordlaws_k86_whole_duality
abbrev hk : PySem.W.Hook := hookM 5
def ob (s : PySem.W.SharedT) : AlM := obsMG 5 (HandSHeadRun.getT s)
theorem ob_eq (s : PySem.W.SharedT) : ob s = hk.obs s.abs := obsMG_eq (HandSHeadRun.getT_eq s)
theorem law_facts {P : Program} {w : World} {K : PySem.W.Frag} {h : Heap} {mg : Str → Option Value} {f : Addr} (X : K.In h) (G : h.Ns mainGlobals mg) (hfa : mg ("law" : Str) = some (.ref f)) (c : SaysM K) :
    ∃ fd : FuncData, (∀ (s : Shared) (v : Value), BindsTo s fd ⟨[v], []⟩ [("script", v)]) ∧ ∀ base : Heap, K.In base → base.Ns mainGlobals mg → FnOk P w K mg base CX0 15 f fd ["script"] (spLaw K) := by
  have T := top_of X G c
  have e := hfa.symm.trans (T.glo j_law rfl)
  cases e
  obtain ⟨fd, F⟩ := T.def_ i_law rfl
  have b := FunD.bindsA (ps := ["script"]) F fun _ _ _ _ _ _ us hl => match us, hl with | [_], _ => rfl
  exact ⟨fd, fun s v => b s [v] rfl, fun base _ _ => fn_law T F⟩
theorem run (w : World) : HandSHeadRun.RunEq R (PySem.W.view R.prog [lawAt]) hk ob 40000 loose w := by
  intro os
  kernel_rfl
end K86
end
section
open PySem PySem.W PySem.Calls PyProof.Rows
theorem PySem.Challenge.cw_wordlaws_k86_whole_duality_holds : PySem.Challenge.rw_wordlaws_k86_whole_duality.Holds := by
  w_on; o_law
  refine HandSHeadRun.head_any (r := OpenLaw.row PySem.Challenge.rw_wordlaws_k86_whole_duality) (q := view (OpenLaw.row PySem.Challenge.rw_wordlaws_k86_whole_duality).prog [K86.lawAt]) (H := K86.hk) (ob := K86.ob) (M := 40000) (loose := K86.loose) (d := HandSHeadRun.topDef (OpenLaw.row PySem.Challenge.rw_wordlaws_k86_whole_duality).prog K86.lawAt) (kwd := []) K86.ob_eq
    (by kernel_rfl) (fun s => by kernel_rfl) K86.run (by kernel_rfl) (by kernel_rfl) (by kernel_rfl) (by rfl) (by first | assumption | decide +kernel) (by decide +kernel) ⟨rfl, rfl, rfl, rfl, rfl, by decide +kernel⟩ ?hw ?hc
  case hw => w_witness2
  case hc =>
    refine L2.walk_ofE (l := PySem.Challenge.rw_wordlaws_k86_whole_duality) (n := 63) (k := 15) (x := "script") (CX := L2.CX0) rfl (by decide) (by kernel_rfl) ⟨rfl, by decide, by decide⟩ ?F (fun _ _ _ _ z => z)
    intro w mg fa h Y G hmg0
    obtain ⟨K, KX, c⟩ := Y
    have hmg : mg ("law" : PySem.Str) = some (.ref fa) := by
      have e : (HandSHeadRun.topDef (OpenLaw.row PySem.Challenge.rw_wordlaws_k86_whole_duality).prog K86.lawAt).name = ("law" : PySem.Str) := by kernel_rfl
      rw [← e]
      exact hmg0
    obtain ⟨fd, hb, hF⟩ := K86.law_facts (P := (PySem.Challenge.rw_wordlaws_k86_whole_duality).prog) (w := w) KX G hmg c
    exact ⟨K, fd, K86.spLaw K, KX, hb, fun H a ns hl _ hS => ⟨a, ns, rfl, hS, fun _ => rfl⟩, hF⟩
end