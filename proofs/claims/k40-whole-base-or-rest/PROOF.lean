import PyProof.Rows.All
import Wide.All
import OpenK.AllK
import Wide.FinOn
import HandS.ForMost
import HandS.WideBits
import HandS.DictComp
import HandS.Defaults
import HandS.IsInst
import HandS.SetFor
import KE.DataMinMax
import KE.GoesEnum
import KE.KUnpackStar
import HandS.Flow
import HandS.Conv
import KE.DataEq
import KE.KEqSeq
import PySem.Challenge.RW_countfold_k40_whole_base_or_rest
set_option Elab.async false
set_option linter.all false
set_option maxRecDepth 100000
set_option maxHeartbeats 4000000
set_option autoImplicit false
namespace CfM
/-! finite sums -/
def S : Nat → (Nat → Int) → Int
  | 0, _ => 0
  | n + 1, f => S n f + f n
theorem S_congr {n : Nat} {f h : Nat → Int} (e : ∀ i, i < n → f i = h i) : S n f = S n h := by
  induction n with
  | zero => rfl
  | succ n ih =>
    show S n f + f n = S n h + h n
    rw [ih fun i hi => e i (by omega), e n (by omega)]
theorem S_add (n : Nat) (f h : Nat → Int) : S n (fun i => f i + h i) = S n f + S n h := by
  induction n with
  | zero => rfl
  | succ n ih =>
    show S n _ + (f n + h n) = (S n f + f n) + (S n h + h n)
    rw [ih]; omega
theorem S_mul (n : Nat) (c : Int) (f : Nat → Int) : S n (fun i => c * f i) = c * S n f := by
  induction n with
  | zero => show (0 : Int) = c * 0; rw [Int.mul_zero]
  | succ n ih =>
    show S n _ + c * f n = c * (S n f + f n)
    rw [ih, Int.mul_add]
theorem S_zero (n : Nat) : S n (fun _ => 0) = 0 := by
  induction n with
  | zero => rfl
  | succ n ih => show S n _ + 0 = 0; rw [ih]; rfl
theorem S_zero' {n : Nat} {f : Nat → Int} (e : ∀ i, i < n → f i = 0) : S n f = 0 := (S_congr e).trans (S_zero n)
/-- only one is not 0 -/
theorem S_one {n k : Nat} {f : Nat → Int} (hk : k < n) (e : ∀ i, i < n → i ≠ k → f i = 0) : S n f = f k := by
  induction n with
  | zero => omega
  | succ n ih =>
    show S n f + f n = f k
    by_cases h : k = n
    · subst h
      rw [S_zero' fun i hi => e i (by omega) (by omega)]
      omega
    · rw [ih (by omega) fun i hi hn => e i (by omega) hn, e n (by omega) (by omega)]
      omega
theorem S_swap (n m : Nat) (f : Nat → Nat → Int) : S n (fun i => S m fun j => f i j) = S m fun j => S n fun i => f i j := by
  induction n with
  | zero => exact (S_zero m).symm
  | succ n ih =>
    show S n _ + S m (fun j => f n j) = S m fun j => S n (fun i => f i j) + f n j
    rw [ih, S_add]
theorem S_front (n : Nat) (f : Nat → Int) : S (n + 1) f = f 0 + S n fun i => f (i + 1) := by
  induction n with
  | zero => show 0 + f 0 = f 0 + 0; omega
  | succ n ih =>
    show S (n + 1) f + f (n + 1) = f 0 + (S n (fun i => f (i + 1)) + f (n + 1))
    rw [ih]; omega
theorem S_more {n m : Nat} {f : Nat → Int} (h : n ≤ m) (e : ∀ i, n ≤ i → f i = 0) : S m f = S n f := by
  induction m with
  | zero => rw [show n = 0 by omega]
  | succ m ih =>
    by_cases hm : n = m + 1
    · rw [hm]
    · show S m f + f m = S n f
      rw [ih (by omega), e m (by omega)]; omega
/-- two places changed, their sum kept -/
theorem S_two {n p q : Nat} {f h : Nat → Int} (hp : p < n) (hq : q < n) (ne : p ≠ q) (e : ∀ i, i < n → i ≠ p → i ≠ q → f i = h i) (es : f p + f q = h p + h q) : S n f = S n h := by
  have d : S n (fun i => f i + (-1) * h i) = 0 := by
    have e1 : S n (fun i => f i + (-1) * h i) = S n (fun i => (if i = p then f p - h p else 0) + (if i = q then f q - h q else 0)) := S_congr fun i hi => by
      by_cases h1 : i = p
      · rw [if_pos h1, if_neg (by omega), h1]; omega
      · by_cases h2 : i = q
        · rw [if_neg h1, if_pos h2, h2]; omega
        · rw [if_neg h1, if_neg h2, e i hi h1 h2]; omega
    rw [e1, S_add, S_one hp (fun i _ hn => if_neg hn), S_one hq (fun i _ hn => if_neg hn), if_pos rfl, if_pos rfl]
    omega
  rw [S_add, S_mul] at d
  omega

/-! lists of ints as functions -/
def g (v : List Int) (i : Nat) : Int := v.getD i 0
theorem g_nil (i : Nat) : g [] i = 0 := by unfold g; simp
theorem g_cons_zero (x : Int) (v : List Int) : g (x :: v) 0 = x := rfl
theorem g_cons_succ (x : Int) (v : List Int) (i : Nat) : g (x :: v) (i + 1) = g v i := rfl
theorem g_out {v : List Int} {i : Nat} (h : v.length ≤ i) : g v i = 0 := by
  unfold g
  rw [List.getD_eq_getElem?_getD, List.getElem?_eq_none h]
  rfl
theorem g_in {v : List Int} {i : Nat} (h : i < v.length) : v[i]? = some (g v i) := by
  unfold g
  rw [List.getD_eq_getElem?_getD, List.getElem?_eq_getElem h]
  rfl
theorem g_mem {v : List Int} {i : Nat} (h : i < v.length) : g v i ∈ v := List.mem_of_getElem? (g_in h)
theorem g_ext {u v : List Int} (hl : u.length = v.length) (e : ∀ i, i < u.length → g u i = g v i) : u = v := by
  apply List.ext_getElem? fun i => ?_
  by_cases h : i < u.length
  · rw [g_in h, g_in (by omega), e i h]
  · rw [List.getElem?_eq_none (by omega), List.getElem?_eq_none (by omega)]
/-- the product of two rows -/
def dot (a b : List Int) : Int := (List.zipWith (fun x y => x * y) a b).sum
theorem dot_S : ∀ (a b : List Int) (n : Nat), min a.length b.length ≤ n → dot a b = S n fun i => g a i * g b i
  | [], b, n, _ => by
    rw [S_zero' fun i _ => by rw [g_nil, Int.zero_mul]]
    rfl
  | x :: a, [], n, _ => by
    rw [S_zero' fun i _ => by rw [g_nil, Int.mul_zero]]
    rfl
  | x :: a, y :: b, 0, h => by simp at h
  | x :: a, y :: b, n + 1, h => by
    rw [S_front]
    show x * y + dot a b = x * y + S n fun i => g a i * g b i
    rw [dot_S a b n (by simp at h; omega)]
theorem dot_w {a b : List Int} {w : Nat} (h : a.length = w ∨ b.length = w) : dot a b = S w fun i => g a i * g b i := dot_S a b w (by omega)
theorem dot_comm (a b : List Int) : dot a b = dot b a := by
  rw [dot_S a b (min a.length b.length) (Nat.le_refl _), dot_S b a (min a.length b.length) (by omega)]
  exact S_congr fun i _ => Int.mul_comm _ _
/-- a b place by place -/
def ax (q : Int) (u v : List Int) : List Int := List.zipWith (fun a b => a + q * b) u v
theorem ax_len (q : Int) (u v : List Int) : (ax q u v).length = min u.length v.length := by unfold ax; simp
theorem ax_g {q : Int} {u v : List Int} (h : u.length = v.length) (i : Nat) : g (ax q u v) i = g u i + q * g v i := by
  by_cases hi : i < u.length
  · have e : (ax q u v)[i]? = some (g u i + q * g v i) := by
      unfold ax
      rw [List.getElem?_zipWith, g_in hi, g_in (by omega)]
    rw [g_in (by rw [ax_len]; omega)] at e
    exact Option.some.inj e
  · rw [g_out (by rw [ax_len]; omega), g_out (show u.length ≤ i by omega), g_out (show v.length ≤ i by omega)]; omega
theorem dot_ax {a u v : List Int} {q : Int} (h : u.length = v.length) : dot a (ax q u v) = dot a u + q * dot a v := by
  have l := ax_len q u v
  rw [dot_w (w := u.length) (.inr (by omega)), dot_w (w := u.length) (.inr rfl), dot_w (w := u.length) (.inr h.symm), ← S_mul, ← S_add]
  exact S_congr fun i _ => by rw [ax_g h]; grind

/-! matrices: lists of w lists of w -/
structure Wf (w : Nat) (m : List (List Int)) : Prop where
  len : m.length = w
  each : ∀ v ∈ m, v.length = w
abbrev row (m : List (List Int)) (a : Nat) : List Int := m.getD a []
def ent (m : List (List Int)) (a i : Nat) : Int := g (row m a) i
theorem Wf.row {w : Nat} {m : List (List Int)} (h : Wf w m) {a : Nat} (ha : a < w) : (row m a).length = w := by
  have e : m[a]? = some (CfM.row m a) := by
    unfold CfM.row
    rw [List.getD_eq_getElem?_getD, List.getElem?_eq_getElem (by rw [h.len]; exact ha)]
    rfl
  exact h.each _ (List.mem_of_getElem? e)
theorem row_set {m : List (List Int)} {a b : Nat} {v : List Int} (ha : a < m.length) : row (m.set a v) b = if b = a then v else row m b := by
  unfold row
  rw [List.getD_eq_getElem?_getD, List.getD_eq_getElem?_getD, List.getElem?_set]
  by_cases h : b = a
  · subst h
    rw [if_pos rfl, if_pos ha, if_pos rfl]
    rfl
  · rw [if_neg (Ne.symm h), if_neg h]
theorem Wf.set {w : Nat} {m : List (List Int)} (h : Wf w m) {a : Nat} {v : List Int} (hv : v.length = w) : Wf w (m.set a v) :=
  ⟨by rw [List.length_set]; exact h.len, fun u hu => by
    rcases List.mem_or_eq_of_mem_set hu with z | z
    · exact h.each u z
    · rw [z]; exact hv⟩

/-- columns and inverse: each the other's inverse -/
structure Inverse (w : Nat) (cols inv : List (List Int)) : Prop where
  wc : Wf w cols
  wi : Wf w inv
  one : ∀ a b, a < w → b < w → dot (row inv a) (row cols b) = if a = b then 1 else 0
  all : ∀ (x : Nat → Int) (i : Nat), i < w → S w (fun a => (S w fun j => ent inv a j * x j) * ent cols a i) = x i
/-- column a less q times column p, inverse p and q times inverse a -/
theorem Inverse.op {w : Nat} {cols inv : List (List Int)} (I : Inverse w cols inv) {a p : Nat} (ha : a < w) (hp : p < w) (ne : a ≠ p) (q : Int) :
    Inverse w (cols.set a (ax (-q) (row cols a) (row cols p))) (inv.set p (ax q (row inv p) (row inv a))) := by
  have ca := I.wc.row ha
  have cp := I.wc.row hp
  have ia := I.wi.row ha
  have ip := I.wi.row hp
  have hac : a < cols.length := by rw [I.wc.len]; exact ha
  have hpi : p < inv.length := by rw [I.wi.len]; exact hp
  refine ⟨I.wc.set (by rw [ax_len]; omega), I.wi.set (by rw [ax_len]; omega), fun c b hc hb => ?_, fun x i hi => ?_⟩
  · rw [row_set hac, row_set hpi]
    have key : ∀ u, dot u (if b = a then ax (-q) (row cols a) (row cols p) else row cols b) = if b = a then dot u (row cols a) + -q * dot u (row cols p) else dot u (row cols b) := fun u => by
      by_cases h : b = a
      · rw [if_pos h, if_pos h, dot_ax (by omega)]
      · rw [if_neg h, if_neg h]
    rw [key]
    by_cases h1 : c = p
    · rw [if_pos h1, dot_comm, dot_ax (by omega), dot_comm, dot_comm (row cols a), dot_comm (ax q (row inv p) (row inv a)), dot_ax (by omega), dot_comm _ (row inv p), dot_comm _ (row inv a),
        dot_comm (ax q (row inv p) (row inv a)) (row cols b), dot_ax (by omega), dot_comm _ (row inv p), dot_comm _ (row inv a)]
      rw [I.one p a hp ha, I.one a a ha ha, I.one p p hp hp, I.one a p ha hp, I.one p b hp hb, I.one a b ha hb, if_neg (Ne.symm ne), if_pos rfl, if_pos rfl, if_neg ne]
      by_cases h2 : b = a
      · rw [if_pos h2, if_neg (by omega)]; omega
      · rw [if_neg h2, if_neg (show ¬ a = b from fun z => h2 z.symm), h1]; omega
    · rw [if_neg h1, I.one c a hc ha, I.one c p hc hp, I.one c b hc hb, if_neg h1]
      by_cases h2 : b = a
      · rw [if_pos h2, h2]; omega
      · rw [if_neg h2]
  · rw [← I.all x i hi]
    have eI : ∀ b j, ent (inv.set p (ax q (row inv p) (row inv a))) b j = if b = p then ent inv p j + q * ent inv a j else ent inv b j := fun b j => by
      unfold ent
      rw [row_set hpi]
      by_cases h : b = p
      · rw [if_pos h, if_pos h, ax_g (by omega)]
      · rw [if_neg h, if_neg h]
    have eC : ∀ b j, ent (cols.set a (ax (-q) (row cols a) (row cols p))) b j = if b = a then ent cols a j + -q * ent cols p j else ent cols b j := fun b j => by
      unfold ent
      rw [row_set hac]
      by_cases h : b = a
      · rw [if_pos h, if_pos h, ax_g (by omega)]
      · rw [if_neg h, if_neg h]
    have sI : ∀ b, S w (fun j => ent (inv.set p (ax q (row inv p) (row inv a))) b j * x j) = if b = p then S w (fun j => ent inv p j * x j) + q * S w (fun j => ent inv a j * x j) else S w fun j => ent inv b j * x j := fun b => by
      by_cases h : b = p
      · rw [if_pos h, ← S_mul, ← S_add]
        exact S_congr fun j _ => by rw [eI, if_pos h]; grind
      · rw [if_neg h]
        exact S_congr fun j _ => by rw [eI, if_neg h]
    refine S_two ha hp ne (fun b hb h1 h2 => by rw [sI, eC, if_neg h2, if_neg h1]) ?_
    rw [sI, eC, sI, eC, if_neg ne, if_pos rfl, if_pos rfl, if_neg (Ne.symm ne)]
    grind
end CfM

namespace CfM
/-! pairs of ints, the least -/
def pairLt (p q : Int × Int) : Bool := decide (p.1 < q.1 ∨ (p.1 = q.1 ∧ p.2 < q.2))
def minP (p : Int × Int) (ps : List (Int × Int)) : Int × Int := ps.foldl (fun a y => if pairLt y a then y else a) p
theorem pairLt_self (p : Int × Int) : pairLt p p = false := by unfold pairLt; simp
theorem pairLt_iff {p q : Int × Int} : pairLt p q = false ↔ ¬ (p.1 < q.1 ∨ (p.1 = q.1 ∧ p.2 < q.2)) := by unfold pairLt; simp
theorem minP_spec : ∀ (ps : List (Int × Int)) (p : Int × Int), minP p ps ∈ p :: ps ∧ ∀ q ∈ p :: ps, pairLt q (minP p ps) = false
  | [], p => ⟨List.mem_cons_self, fun q h => by
    rw [List.mem_singleton] at h
    rw [h]
    exact pairLt_self p⟩
  | q :: ps, p => by
    have e : minP p (q :: ps) = minP (if pairLt q p then q else p) ps := rfl
    rw [e]
    by_cases h : pairLt q p = true
    · rw [if_pos h]
      obtain ⟨h1, h2⟩ := minP_spec ps q
      refine ⟨List.mem_cons_of_mem _ h1, fun z hz => ?_⟩
      rcases List.mem_cons.mp hz with rfl | hz
      · have h3 := h2 q List.mem_cons_self
        unfold pairLt at *
        simp at *
        omega
      · exact h2 z hz
    · have hf : pairLt q p = false := by simpa using h
      rw [if_neg h]
      obtain ⟨h1, h2⟩ := minP_spec ps p
      refine ⟨?_, fun z hz => ?_⟩
      · rcases List.mem_cons.mp h1 with h1 | h1
        · rw [h1]; exact List.mem_cons_self
        · exact List.mem_cons_of_mem _ (List.mem_cons_of_mem _ h1)
      · rcases List.mem_cons.mp hz with rfl | hz
        · exact h2 z List.mem_cons_self
        · rcases List.mem_cons.mp hz with rfl | hz
          · have h3 := h2 p List.mem_cons_self
            unfold pairLt at *
            simp at *
            omega
          · exact h2 z (List.mem_cons_of_mem _ hz)

/-! the mirror of turned -/
def absI (i : Int) : Int := if i < 0 then -i else i
theorem absI_eq (i : Int) : absI i = (i.natAbs : Int) := by unfold absI; split <;> omega
def fnd (cols : List (List Int)) (coefs : List Int) (free : List Nat) : List (Nat × Int) := free.map fun a => (a, dot coefs (row cols a))
def lft (f : List (Nat × Int)) : List (Int × Int) := (f.filter fun p => p.2 != 0).map fun p => (absI p.2, (p.1 : Int))
def lk (l : List (Nat × Int)) (k : Nat) : Int := ((l.find? fun p => p.1 == k).map (·.2)).getD 0
abbrev CV := List (List Int) × List (List Int)
def opT (p : Nat) (s : CV) (a : Nat) (q : Int) : CV := (s.1.set a (ax (-q) (row s.1 a) (row s.1 p)), s.2.set p (ax q (row s.2 p) (row s.2 a)))
def stepT (q : Nat → Int) (p : Nat) (s : CV) (a : Nat) : CV := if a = p then s else opT p s a (q a)
def quo (f : List (Nat × Int)) (p a : Nat) : Int := (lk f a).fdiv (lk f p)
def turnF : Nat → List (List Int) → List (List Int) → List Nat → List Int → List (List Int) × List (List Int) × Option Nat
  | 0, cols, inv, _, _ => (cols, inv, none)
  | n + 1, cols, inv, free, coefs => match lft (fnd cols coefs free) with
    | [] => (cols, inv, none)
    | [a] => (cols, inv, some a.2.toNat)
    | p :: ps =>
      let s := ((p :: ps).map fun x => x.2.toNat).foldl (stepT (quo (fnd cols coefs free) (minP p ps).2.toNat) (minP p ps).2.toNat) (cols, inv)
      turnF n s.1 s.2 free coefs
/-- the free ones whose product is not 0 -/
def nz (cols : List (List Int)) (coefs : List Int) (free : List Nat) : List Nat := free.filter fun a => dot coefs (row cols a) != 0
theorem lft_nz (cols : List (List Int)) (coefs : List Int) (free : List Nat) : lft (fnd cols coefs free) = (nz cols coefs free).map fun a => (absI (dot coefs (row cols a)), (a : Int)) := by
  unfold lft fnd nz
  rw [List.filter_map, List.map_map]
  rfl
theorem ats_nz (cols : List (List Int)) (coefs : List Int) (free : List Nat) : (lft (fnd cols coefs free)).map (fun x => x.2.toNat) = nz cols coefs free := by
  rw [lft_nz, List.map_map]
  have e : ((fun x : Int × Int => x.2.toNat) ∘ fun a : Nat => (absI (dot coefs (row cols a)), (a : Int))) = id := by funext a; simp
  rw [e, List.map_id]
theorem lk_fnd {cols : List (List Int)} {coefs : List Int} : ∀ {free : List Nat} {a : Nat}, a ∈ free → lk (fnd cols coefs free) a = dot coefs (row cols a)
  | b :: free, a, h => by
    unfold lk fnd
    rw [List.map_cons, List.find?_cons]
    by_cases e : b = a
    · subst e
      simp
    · have h' : a ∈ free := by
        rcases List.mem_cons.mp h with z | z
        · exact absurd z.symm e
        · exact z
      have ih := lk_fnd (cols := cols) (coefs := coefs) h'
      unfold lk fnd at ih
      simp only [show (b == a) = false from by simpa using e]
      exact ih
theorem mem_nz {cols : List (List Int)} {coefs : List Int} {free : List Nat} {a : Nat} : a ∈ nz cols coefs free ↔ a ∈ free ∧ dot coefs (row cols a) ≠ 0 := by
  unfold nz
  rw [List.mem_filter]
  simp

/-- what a pass does -/
theorem pass_fold {w : Nat} {q : Nat → Int} {p : Nat} (hp : p < w) : ∀ (ats : List Nat) (cols inv : List (List Int)), Inverse w cols inv → ats.Nodup → (∀ a ∈ ats, a < w) →
    Inverse w (ats.foldl (stepT q p) (cols, inv)).1 (ats.foldl (stepT q p) (cols, inv)).2 ∧
    (∀ b, row (ats.foldl (stepT q p) (cols, inv)).1 b = if b ∈ ats ∧ b ≠ p then ax (-(q b)) (row cols b) (row cols p) else row cols b) ∧
    (∀ b, b ≠ p → row (ats.foldl (stepT q p) (cols, inv)).2 b = row inv b) ∧
    (∀ (J Q : Nat), (∀ b i, (ent inv b i).natAbs ≤ J) → (∀ a ∈ ats, a ≠ p → (q a).natAbs ≤ Q) → ∀ (R : Nat), (∀ i, (ent inv p i).natAbs ≤ R) → ∀ i, (ent (ats.foldl (stepT q p) (cols, inv)).2 p i).natAbs ≤ R + ats.length * (Q * J))
  | [], cols, inv, I, _, _ => ⟨I, fun b => by simp, fun b _ => rfl, fun J Q _ _ R hR i => by simpa using hR i⟩
  | a :: ats, cols, inv, I, hn, hw => by
    have hna : a ∉ ats := (List.nodup_cons.mp hn).1
    have hn' := (List.nodup_cons.mp hn).2
    have hw' : ∀ b ∈ ats, b < w := fun b hb => hw b (List.mem_cons_of_mem _ hb)
    have ha : a < w := hw a List.mem_cons_self
    rw [List.foldl_cons]
    by_cases h : a = p
    · have e : stepT q p (cols, inv) a = (cols, inv) := if_pos h
      rw [e]
      obtain ⟨h1, h2, h3, h4⟩ := pass_fold hp ats cols inv I hn' hw'
      refine ⟨h1, fun b => ?_, h3, fun J Q hJ hQ R hR i => ?_⟩
      · rw [h2]
        by_cases hb : b ∈ ats ∧ b ≠ p
        · rw [if_pos hb, if_pos ⟨List.mem_cons_of_mem _ hb.1, hb.2⟩]
        · rw [if_neg hb, if_neg]
          rintro ⟨m, ne⟩
          rcases List.mem_cons.mp m with z | z
          · exact ne (z.trans h)
          · exact hb ⟨z, ne⟩
      · have := h4 J Q hJ (fun c hc => hQ c (List.mem_cons_of_mem _ hc)) R hR i
        rw [List.length_cons, Nat.succ_mul]
        omega
    · have e : stepT q p (cols, inv) a = opT p (cols, inv) a (q a) := if_neg h
      rw [e]
      unfold opT
      have hac : a < cols.length := by rw [I.wc.len]; exact ha
      have hpi : p < inv.length := by rw [I.wi.len]; exact hp
      have I1 := I.op ha hp h (q a)
      have lp := I.wi.row hp
      have la := I.wi.row ha
      obtain ⟨h1, h2, h3, h4⟩ := pass_fold hp ats _ _ I1 hn' hw'
      refine ⟨h1, fun b => ?_, fun b hb => ?_, fun J Q hJ hQ R hR i => ?_⟩
      · rw [h2, row_set hac, row_set hac, if_neg (Ne.symm h)]
        by_cases hb : b = a
        · subst hb
          rw [if_neg (fun z => hna z.1), if_pos rfl, if_pos ⟨List.mem_cons_self, h⟩]
        · rw [if_neg hb]
          by_cases hm : b ∈ ats ∧ b ≠ p
          · rw [if_pos hm, if_pos ⟨List.mem_cons_of_mem _ hm.1, hm.2⟩]
          · rw [if_neg hm, if_neg]
            rintro ⟨m, ne⟩
            rcases List.mem_cons.mp m with z | z
            · exact hb z
            · exact hm ⟨z, ne⟩
      · rw [h3 b hb, row_set hpi, if_neg hb]
      · have eI : ∀ b j, ent (inv.set p (ax (q a) (row inv p) (row inv a))) b j = if b = p then ent inv p j + q a * ent inv a j else ent inv b j := fun b j => by
          unfold ent
          rw [row_set hpi]
          by_cases h : b = p
          · rw [if_pos h, if_pos h, ax_g (by omega)]
          · rw [if_neg h, if_neg h]
        -- the inverse p grows, the others stay: told apart by a fold over the others alone
        have step : ∀ (ats : List Nat) (s : CV) (R : Nat), (∀ c ∈ ats, c < w) → (∀ c ∈ ats, c ≠ p → (q c).natAbs ≤ Q) → Wf w s.2 → (∀ b i, b ≠ p → (ent s.2 b i).natAbs ≤ J) → (∀ i, (ent s.2 p i).natAbs ≤ R) → ∀ i, (ent (ats.foldl (stepT q p) s).2 p i).natAbs ≤ R + ats.length * (Q * J) := by
          intro ats
          induction ats with
          | nil => intro s R _ _ _ _ hR i; simpa using hR i
          | cons c ats ih =>
            intro s R hw2 hq2 wf hJ2 hR2 i
            rw [List.foldl_cons, List.length_cons, Nat.succ_mul]
            have hw3 : ∀ b ∈ ats, b < w := fun b hb => hw2 b (List.mem_cons_of_mem _ hb)
            have hq3 : ∀ b ∈ ats, b ≠ p → (q b).natAbs ≤ Q := fun b hb => hq2 b (List.mem_cons_of_mem _ hb)
            by_cases hc : c = p
            · have e : stepT q p s c = s := if_pos hc
              rw [e]
              have := ih s R hw3 hq3 wf hJ2 hR2 i
              omega
            · have e : stepT q p s c = opT p s c (q c) := if_neg hc
              rw [e]
              have lp := wf.row hp
              have lc := wf.row (hw2 c List.mem_cons_self)
              have hps : p < s.2.length := by rw [wf.len]; exact hp
              have := ih (opT p s c (q c)) (R + Q * J) hw3 hq3 (wf.set (by rw [ax_len]; omega)) (fun b j hb => ?_) (fun j => ?_) i
              · omega
              · unfold opT ent
                show (g (row (s.2.set p _) b) j).natAbs ≤ J
                rw [row_set hps, if_neg hb]
                exact hJ2 b j hb
              · unfold opT ent
                show (g (row (s.2.set p _) p) j).natAbs ≤ _
                rw [row_set hps, if_pos rfl, ax_g (by omega)]
                have b1 := hR2 j
                have b2 : (q c * ent s.2 c j).natAbs ≤ Q * J := by
                  rw [Int.natAbs_mul]
                  exact Nat.mul_le_mul (hq2 c List.mem_cons_self hc) (hJ2 c j hc)
                unfold ent at b1 b2
                omega
        have z := step (a :: ats) (cols, inv) R hw hQ I.wi (fun b j _ => hJ b j) hR i
        rw [List.foldl_cons, e] at z
        exact z
end CfM

namespace CfM
/-! // and % -/
theorem fmod_facts {a b : Int} (hb : b ≠ 0) : a = a.fdiv b * b + a.fmod b ∧ (a.fmod b).natAbs < b.natAbs ∧ (0 < b → 0 ≤ a.fmod b) ∧ (b < 0 → a.fmod b ≤ 0) := by
  have e := Int.mul_fdiv_add_fmod a b
  refine ⟨by rw [Int.mul_comm]; omega, ?_⟩
  rcases Int.lt_trichotomy b 0 with h | h | h
  · have e2 : a.fmod b = -((-a).fmod (-b)) := by rw [Int.neg_fmod_neg]; omega
    have e3 : (-a).fmod (-b) = (-a) % (-b) := Int.fmod_eq_emod_of_nonneg _ (by omega)
    have h1 := Int.emod_nonneg (-a) (show -b ≠ 0 by omega)
    have h2 := Int.emod_lt_of_pos (-a) (show 0 < -b by omega)
    rw [e2, e3]
    omega
  · exact absurd h hb
  · have e3 : a.fmod b = a % b := Int.fmod_eq_emod_of_nonneg _ (by omega)
    have h1 := Int.emod_nonneg a (show b ≠ 0 by omega)
    have h2 := Int.emod_lt_of_pos a h
    rw [e3]
    omega
/-- a and b on one side of 0 -/
def Side (a b : Int) : Prop := (0 ≤ a ∧ 0 < b) ∨ (a ≤ 0 ∧ b < 0)
theorem fdiv_side {a b : Int} (h : Side a b) : (a.fdiv b).natAbs * b.natAbs + (a.fmod b).natAbs = a.natAbs := by
  have hb : b ≠ 0 := by rcases h with h | h <;> omega
  obtain ⟨e, h1, h2, h3⟩ := fmod_facts (a := a) hb
  have key : ∀ q : Int, 0 ≤ q → a = q * b + a.fmod b → q = a.fdiv b → (a.fdiv b).natAbs * b.natAbs + (a.fmod b).natAbs = a.natAbs := fun q hq e1 e2 => by
    rw [← e2, ← Int.natAbs_mul]
    rcases h with h | h
    · have := h2 h.2
      have hm : 0 ≤ q * b := Int.mul_nonneg hq (by omega)
      omega
    · have := h3 h.2
      have hm : 0 ≤ q * (-b) := Int.mul_nonneg hq (by omega)
      rw [Int.mul_neg] at hm
      omega
  refine key _ ?_ e rfl
  rcases Int.lt_or_le (a.fdiv b) 0 with z | z
  · exfalso
    rcases h with h | h
    · have := h2 h.2
      have hm : 0 ≤ (-1 - a.fdiv b) * b := Int.mul_nonneg (by omega) (by omega)
      rw [Int.sub_mul] at hm
      omega
    · have := h3 h.2
      have hm : 0 ≤ (-1 - a.fdiv b) * (-b) := Int.mul_nonneg (by omega) (by omega)
      rw [Int.mul_neg, Int.sub_mul] at hm
      omega
  · exact z
theorem natAbs_sub_le {a t r : Int} (e : a = t + r) : t.natAbs ≤ a.natAbs + r.natAbs := by omega
theorem fdiv_le {a b : Int} (hb : b ≠ 0) : (a.fdiv b).natAbs ≤ a.natAbs / b.natAbs + 1 := by
  obtain ⟨e, h1, _, _⟩ := fmod_facts (a := a) hb
  have hp : 0 < b.natAbs := by omega
  have e2 : (a.fdiv b).natAbs * b.natAbs ≤ a.natAbs + (a.fmod b).natAbs := by
    rw [← Int.natAbs_mul]
    exact natAbs_sub_le e
  rcases Nat.eq_zero_or_pos (a.fdiv b).natAbs with z | z
  · rw [z]
    exact Nat.zero_le _
  · have e3 : ((a.fdiv b).natAbs - 1) * b.natAbs ≤ a.natAbs := by
      rw [Nat.sub_mul, Nat.one_mul]
      omega
    have := (Nat.le_div_iff_mul_le hp).mpr e3
    omega

/-! one turn of turned, seen from outside -/
section
variable {w : Nat} {cols inv : List (List Int)} {coefs : List Int} {free : List Nat}
theorem turnF_cases (n : Nat) (cols inv : List (List Int)) (free : List Nat) (coefs : List Int) :
    (nz cols coefs free = [] ∧ turnF (n + 1) cols inv free coefs = (cols, inv, none)) ∨
    (∃ a, nz cols coefs free = [a] ∧ turnF (n + 1) cols inv free coefs = (cols, inv, some a)) ∨
    (2 ≤ (nz cols coefs free).length ∧ ∃ p, p ∈ nz cols coefs free ∧ (∀ a ∈ nz cols coefs free, (dot coefs (row cols p)).natAbs ≤ (dot coefs (row cols a)).natAbs) ∧
      turnF (n + 1) cols inv free coefs = turnF n ((nz cols coefs free).foldl (stepT (quo (fnd cols coefs free) p) p) (cols, inv)).1 ((nz cols coefs free).foldl (stepT (quo (fnd cols coefs free) p) p) (cols, inv)).2 free coefs) := by
  have hl := lft_nz cols coefs free
  have ha := ats_nz cols coefs free
  have ht : turnF (n + 1) cols inv free coefs = match lft (fnd cols coefs free) with
    | [] => (cols, inv, none)
    | [a] => (cols, inv, some a.2.toNat)
    | p :: ps =>
      let s := ((p :: ps).map fun x => x.2.toNat).foldl (stepT (quo (fnd cols coefs free) (minP p ps).2.toNat) (minP p ps).2.toNat) (cols, inv)
      turnF n s.1 s.2 free coefs := rfl
  rw [ht]
  match hm : lft (fnd cols coefs free) with
  | [] =>
    rw [hm] at ha
    exact .inl ⟨ha.symm, rfl⟩
  | [a] =>
    rw [hm] at ha
    exact .inr (.inl ⟨a.2.toNat, ha.symm, rfl⟩)
  | p :: q :: ps =>
    rw [hm] at ha
    refine .inr (.inr ⟨by rw [← ha]; simp, ?_⟩)
    obtain ⟨h1, h2⟩ := minP_spec (q :: ps) p
    rw [← hm, hl] at h1
    obtain ⟨a, hma, ea⟩ := List.mem_map.mp h1
    have e2 : (minP p (q :: ps)).2.toNat = a := by rw [← ea]; simp
    refine ⟨a, hma, fun b hb => ?_, ?_⟩
    · have h3 := h2 (absI (dot coefs (row cols b)), (b : Int)) (by rw [← hm, hl]; exact List.mem_map.mpr ⟨b, hb, rfl⟩)
      rw [← ea, pairLt_iff] at h3
      simp only [absI_eq] at h3
      omega
    · dsimp only
      rw [← ha, e2]
theorem pass_dot {q : Nat → Int} {p : Nat} (I : Inverse w cols inv) (hp : p ∈ nz cols coefs free) (hf : ∀ a ∈ free, a < w) (hn : free.Nodup) (u : List Int) (b : Nat) (hb : b ∈ free) :
    dot u (row ((nz cols coefs free).foldl (stepT q p) (cols, inv)).1 b) = if b ∈ nz cols coefs free ∧ b ≠ p then dot u (row cols b) - q b * dot u (row cols p) else dot u (row cols b) := by
  have hpw := hf p (mem_nz.mp hp).1
  obtain ⟨_, h2, _, _⟩ := pass_fold (q := q) hpw (nz cols coefs free) cols inv I (hn.filter _) fun a ha => hf a (mem_nz.mp ha).1
  rw [h2]
  by_cases h : b ∈ nz cols coefs free ∧ b ≠ p
  · rw [if_pos h, if_pos h, dot_ax (by rw [I.wc.row (hf b hb), I.wc.row hpw])]
    rw [Int.neg_mul]; omega
  · rw [if_neg h, if_neg h]
/-- enough turns are left -/
def Fuel (n : Nat) (cols : List (List Int)) (coefs : List Int) (free : List Nat) : Prop := 1 ≤ n ∧ (2 ≤ (nz cols coefs free).length → ∃ a ∈ nz cols coefs free, (dot coefs (row cols a)).natAbs < n)
/-- the products behind a pass -/
theorem pass_found {p : Nat} (I : Inverse w cols inv) (hp : p ∈ nz cols coefs free) (hf : ∀ a ∈ free, a < w) (hn : free.Nodup) (b : Nat) (hb : b ∈ free) :
    dot coefs (row ((nz cols coefs free).foldl (stepT (quo (fnd cols coefs free) p) p) (cols, inv)).1 b) = if b = p then dot coefs (row cols p) else (dot coefs (row cols b)).fmod (dot coefs (row cols p)) := by
  rw [pass_dot I hp hf hn coefs b hb]
  have hz := (mem_nz.mp hp).2
  by_cases e : b = p
  · rw [if_neg (fun z => z.2 e), if_pos e, e]
  · rw [if_neg e]
    have ef := (fmod_facts (a := dot coefs (row cols b)) hz).1
    by_cases hb2 : b ∈ nz cols coefs free
    · rw [if_pos ⟨hb2, e⟩]
      unfold quo
      rw [lk_fnd hb, lk_fnd (mem_nz.mp hp).1]
      omega
    · rw [if_neg (fun z => hb2 z.1)]
      have h0 : dot coefs (row cols b) = 0 := by
        rcases Int.decEq (dot coefs (row cols b)) 0 with z | z
        · exact absurd (mem_nz.mpr ⟨hb, z⟩) hb2
        · exact z
      rw [h0, Int.zero_fmod]
theorem two_other {l : List Nat} (hn : l.Nodup) (h : 2 ≤ l.length) (p : Nat) : ∃ a ∈ l, a ≠ p := by
  match l, hn, h with
  | a :: b :: l, hn, _ =>
    by_cases e : a = p
    · refine ⟨b, by simp, fun z => ?_⟩
      rw [e, ← z] at hn
      simp at hn
    · exact ⟨a, by simp, e⟩
theorem nz_nodup (hn : free.Nodup) : (nz cols coefs free).Nodup := hn.filter _
theorem pass_fuel {n p : Nat} (I : Inverse w cols inv) (hp : p ∈ nz cols coefs free) (hm : ∀ a ∈ nz cols coefs free, (dot coefs (row cols p)).natAbs ≤ (dot coefs (row cols a)).natAbs) (hf : ∀ a ∈ free, a < w) (hn : free.Nodup)
    (h2 : 2 ≤ (nz cols coefs free).length) (F : Fuel (n + 1) cols coefs free) : Fuel n ((nz cols coefs free).foldl (stepT (quo (fnd cols coefs free) p) p) (cols, inv)).1 coefs free := by
  obtain ⟨a, ha, hl⟩ := F.2 h2
  have hz := (mem_nz.mp hp).2
  have := hm a ha
  refine ⟨by omega, fun h3 => ?_⟩
  obtain ⟨b, hb, ne⟩ := two_other (nz_nodup hn) h3 p
  refine ⟨b, hb, ?_⟩
  rw [pass_found I hp hf hn b (mem_nz.mp hb).1, if_neg ne]
  have := (fmod_facts (a := dot coefs (row cols b)) hz).2.1
  omega

structure Turned (w : Nat) (cols inv : List (List Int)) (free : List Nat) (coefs : List Int) (c' v' : List (List Int)) (r : Option Nat) : Prop where
  inverse : Inverse w c' v'
  keep : ∀ b, b ∉ free → row c' b = row cols b ∧ row v' b = row inv b
  lin : ∀ u : List Int, (∀ a ∈ free, dot u (row cols a) = 0) → ∀ a ∈ free, dot u (row c' a) = 0
  non : r = none → c' = cols ∧ v' = inv ∧ ∀ a ∈ free, dot coefs (row cols a) = 0
  som : ∀ a, r = some a → a ∈ free ∧ dot coefs (row c' a) ≠ 0 ∧ ∀ b ∈ free, b ≠ a → dot coefs (row c' b) = 0
theorem nz_none (h : nz cols coefs free = []) : ∀ a ∈ free, dot coefs (row cols a) = 0 := fun a ha => by
  rcases Int.decEq (dot coefs (row cols a)) 0 with z | z
  · have := mem_nz.mpr ⟨ha, z⟩
    rw [h] at this
    cases this
  · exact z
theorem turned_spec (hf : ∀ a ∈ free, a < w) (hn : free.Nodup) : ∀ (n : Nat) (cols inv : List (List Int)), Inverse w cols inv → Fuel n cols coefs free →
    Turned w cols inv free coefs (turnF n cols inv free coefs).1 (turnF n cols inv free coefs).2.1 (turnF n cols inv free coefs).2.2
  | 0, cols, inv, _, F => absurd F.1 (by omega)
  | n + 1, cols, inv, I, F => by
    rcases turnF_cases n cols inv free coefs with ⟨h, e⟩ | ⟨a, h, e⟩ | ⟨h2, p, hp, hm, e⟩
    · rw [e]
      exact ⟨I, fun b _ => ⟨rfl, rfl⟩, fun u hu => hu, fun _ => ⟨rfl, rfl, nz_none h⟩, fun a z => nomatch z⟩
    · rw [e]
      have ha : a ∈ nz cols coefs free := by rw [h]; exact List.mem_cons_self
      refine ⟨I, fun b _ => ⟨rfl, rfl⟩, fun u hu => hu, fun z => (nomatch z), fun a' z => ?_⟩
      cases z
      refine ⟨(mem_nz.mp ha).1, (mem_nz.mp ha).2, fun b hb ne => ?_⟩
      rcases Int.decEq (dot coefs (row cols b)) 0 with z | z
      · have hb' := mem_nz.mpr ⟨hb, z⟩
        rw [h, List.mem_singleton] at hb'
        exact absurd hb' ne
      · exact z
    · rw [e]
      have hpw := hf p (mem_nz.mp hp).1
      obtain ⟨I1, hc, hv, _⟩ := pass_fold (q := quo (fnd cols coefs free) p) hpw (nz cols coefs free) cols inv I (hn.filter _) fun a ha => hf a (mem_nz.mp ha).1
      have F1 := pass_fuel I hp hm hf hn h2 F
      have T := turned_spec hf hn n _ _ I1 F1
      have fp := pass_found I hp hf hn p (mem_nz.mp hp).1
      rw [if_pos rfl] at fp
      refine ⟨T.inverse, fun b hb => ?_, fun u hu => ?_, fun z => ?_, T.som⟩
      · obtain ⟨k1, k2⟩ := T.keep b hb
        refine ⟨k1.trans ?_, k2.trans (hv b fun z => hb (z ▸ (mem_nz.mp hp).1))⟩
        rw [hc, if_neg (fun z => hb (mem_nz.mp z.1).1)]
      · refine T.lin u fun a ha => ?_
        rw [pass_dot I hp hf hn u a ha, hu a ha, hu p (mem_nz.mp hp).1]
        split <;> simp
      · have := (T.non z).2.2 p (mem_nz.mp hp).1
        rw [fp] at this
        exact absurd this (mem_nz.mp hp).2
end
end CfM

namespace CfM
/-! how great the numbers grow -/
theorem sq_le {p p' N : Nat} (h : p + p' ≤ N) : 4 * (p * p') ≤ N * N := by
  have h1 : (p + p') * (p + p') ≤ N * N := Nat.mul_le_mul h h
  have h2 : 4 * (p * p') ≤ (p + p') * (p + p') := by
    rcases Nat.le_total p p' with z | z
    · obtain ⟨d, rfl⟩ := Nat.exists_eq_add_of_le z
      have : (p + (p + d)) * (p + (p + d)) = 4 * (p * (p + d)) + d * d := by grind
      omega
    · obtain ⟨d, rfl⟩ := Nat.exists_eq_add_of_le z
      have : (p' + d + p') * (p' + d + p') = 4 * ((p' + d) * p') + d * d := by grind
      omega
  omega
theorem quot_sq {p p' N q : Nat} (hlt : p' < p) (hq : q * p ≤ N) : q * q * (p * p') ≤ N * N :=
  calc q * q * (p * p') ≤ q * q * (p * p) := Nat.mul_le_mul_left _ (Nat.mul_le_mul_left _ (by omega))
    _ = (q * p) * (q * p) := by grind
    _ ≤ N * N := Nat.mul_le_mul hq hq
theorem pot1 {p p' N q : Nat} (hlt : p' < p) (hN : p + p' ≤ N) (hq : q * p ≤ N) : (1 + q) * (p * p') ≤ N * N := by
  have h1 := sq_le hN
  have h2 := quot_sq hlt hq
  match q, h2 with
  | 0, _ => omega
  | 1, _ => omega
  | q + 2, h2 =>
    refine Nat.le_trans (Nat.mul_le_mul_right _ ?_) h2
    have : (q + 2) * (q + 2) = q * q + 4 * q + 4 := by grind
    have : 0 ≤ q * q := Nat.zero_le _
    omega
theorem pot3 {p p' N q : Nat} (hlt : p' < p) (hN : p + p' ≤ N) (hq : q * p ≤ N) : (1 + 8 * q) * (p * p') ^ 3 ≤ (N * N) ^ 3 := by
  have h1 := sq_le hN
  have h2 := quot_sq hlt hq
  have c1 : (4 * (p * p')) ^ 3 ≤ (N * N) ^ 3 := Nat.pow_le_pow_left h1 3
  have c2 : (q * q * (p * p')) ^ 3 ≤ (N * N) ^ 3 := Nat.pow_le_pow_left h2 3
  rw [Nat.mul_pow] at c1 c2
  have e4 : 4 ^ 3 = 64 := rfl
  rw [e4] at c1
  by_cases h : q ≤ 7
  · refine Nat.le_trans (Nat.mul_le_mul_right _ ?_) c1
    omega
  · refine Nat.le_trans (Nat.mul_le_mul_right _ ?_) c2
    have e1 : q * 8 ≤ q * q := Nat.mul_le_mul_left _ (by omega)
    have e2 : 2 * (q * q) ≤ (q * q) ^ 3 := by
      have e3 : (q * q) ^ 2 ≤ (q * q) ^ 3 := Nat.pow_le_pow_right (by omega) (by decide)
      have e4 : (q * q) ^ 2 = (q * q) * (q * q) := by grind
      have e5 : 2 * (q * q) ≤ (q * q) * (q * q) := Nat.mul_le_mul_right _ (by omega)
      omega
    omega

def BdC (cols : List (List Int)) (free : List Nat) (M : Nat) : Prop := ∀ a ∈ free, ∀ i, (ent cols a i).natAbs ≤ M
def BdI (inv : List (List Int)) (J : Nat) : Prop := ∀ b i, (ent inv b i).natAbs ≤ J
section
variable {w : Nat} {cols inv : List (List Int)} {coefs : List Int} {free : List Nat}
abbrev passC (cols inv : List (List Int)) (free : List Nat) (coefs : List Int) (p : Nat) : CV := (nz cols coefs free).foldl (stepT (quo (fnd cols coefs free) p) p) (cols, inv)
theorem pass_bd {p M J Q : Nat} (I : Inverse w cols inv) (hp : p ∈ nz cols coefs free) (hf : ∀ a ∈ free, a < w) (hn : free.Nodup) (h8 : free.length ≤ 8)
    (bM : BdC cols free M) (bJ : BdI inv J) (hQ : ∀ a ∈ nz cols coefs free, a ≠ p → ((dot coefs (row cols a)).fdiv (dot coefs (row cols p))).natAbs ≤ Q) :
    BdC (passC cols inv free coefs p).1 free (M * (1 + Q)) ∧ BdI (passC cols inv free coefs p).2 (J * (1 + 8 * Q)) := by
  have hpw := hf p (mem_nz.mp hp).1
  obtain ⟨_, hc, hv, hb⟩ := pass_fold (q := quo (fnd cols coefs free) p) hpw (nz cols coefs free) cols inv I (hn.filter _) fun a ha => hf a (mem_nz.mp ha).1
  have hq : ∀ a ∈ nz cols coefs free, a ≠ p → (quo (fnd cols coefs free) p a).natAbs ≤ Q := fun a ha ne => by
    unfold quo
    rw [lk_fnd (mem_nz.mp ha).1, lk_fnd (mem_nz.mp hp).1]
    exact hQ a ha ne
  constructor
  · intro a ha i
    have b1 := bM a ha i
    unfold ent
    rw [hc]
    by_cases h : a ∈ nz cols coefs free ∧ a ≠ p
    · rw [if_pos h, ax_g (by rw [I.wc.row (hf a ha), I.wc.row hpw])]
      have b2 := bM p (mem_nz.mp hp).1 i
      have b3 : (-(quo (fnd cols coefs free) p a) * g (row cols p) i).natAbs ≤ Q * M := by
        rw [Int.natAbs_mul, Int.natAbs_neg]
        exact Nat.mul_le_mul (hq a h.1 h.2) b2
      unfold ent at b1
      rw [Nat.mul_add, Nat.mul_one, Nat.mul_comm M Q]
      generalize -(quo (fnd cols coefs free) p a) * g (row cols p) i = z at b3 ⊢
      omega
    · rw [if_neg h]
      refine Nat.le_trans b1 ?_
      rw [Nat.mul_add, Nat.mul_one]
      exact Nat.le_add_right _ _
  · intro b i
    by_cases h : b = p
    · subst h
      have z := hb J Q bJ hq J (bJ b) i
      refine Nat.le_trans z ?_
      have l8 : (nz cols coefs free).length ≤ 8 := Nat.le_trans (List.length_filter_le _ _) h8
      have : (nz cols coefs free).length * (Q * J) ≤ 8 * (Q * J) := Nat.mul_le_mul_right _ l8
      have e : J * (1 + 8 * Q) = J + 8 * (Q * J) := by grind
      omega
    · unfold ent
      rw [hv b h]
      refine Nat.le_trans (bJ b i) ?_
      rw [Nat.mul_add, Nat.mul_one]
      exact Nat.le_add_right _ _
def SameS (cols : List (List Int)) (coefs : List Int) (free : List Nat) : Prop := (∀ a ∈ free, 0 ≤ dot coefs (row cols a)) ∨ (∀ a ∈ free, dot coefs (row cols a) ≤ 0)
theorem pass_same {p : Nat} (I : Inverse w cols inv) (hp : p ∈ nz cols coefs free) (hf : ∀ a ∈ free, a < w) (hn : free.Nodup) : SameS (passC cols inv free coefs p).1 coefs free := by
  have hz := (mem_nz.mp hp).2
  rcases Int.lt_or_gt_of_ne hz with h | h
  · refine .inr fun a ha => ?_
    rw [pass_found I hp hf hn a ha]
    split
    · omega
    · exact (fmod_facts hz).2.2.2 h
  · refine .inl fun a ha => ?_
    rw [pass_found I hp hf hn a ha]
    split
    · omega
    · exact (fmod_facts hz).2.2.1 h
/-- behind a pass every product is at most the pivot's -/
theorem pass_top {p : Nat} (I : Inverse w cols inv) (hp : p ∈ nz cols coefs free) (hf : ∀ a ∈ free, a < w) (hn : free.Nodup) : ∀ a ∈ free, (dot coefs (row (passC cols inv free coefs p).1 a)).natAbs ≤ (dot coefs (row cols p)).natAbs := fun a ha => by
  rw [pass_found I hp hf hn a ha]
  split
  · exact Nat.le_refl _
  · have := (fmod_facts (a := dot coefs (row cols a)) (mem_nz.mp hp).2).2.1
    omega
/-- the least of them is less than the pivot's; told of the quotient's rest -/
theorem pass_low {p p2 : Nat} (I : Inverse w cols inv) (hp : p ∈ nz cols coefs free) (hf : ∀ a ∈ free, a < w) (hn : free.Nodup)
    (h2 : 2 ≤ (nz (passC cols inv free coefs p).1 coefs free).length) (hm : ∀ a ∈ nz (passC cols inv free coefs p).1 coefs free, (dot coefs (row (passC cols inv free coefs p).1 p2)).natAbs ≤ (dot coefs (row (passC cols inv free coefs p).1 a)).natAbs) :
    ∃ a ∈ nz cols coefs free, (dot coefs (row (passC cols inv free coefs p).1 p2)).natAbs ≤ ((dot coefs (row cols a)).fmod (dot coefs (row cols p))).natAbs := by
  obtain ⟨a, ha, ne⟩ := two_other (nz_nodup hn) h2 p
  have hz := (mem_nz.mp ha).2
  have hfa := (mem_nz.mp ha).1
  have hl := hm a ha
  have e := pass_found I hp hf hn a hfa
  rw [if_neg ne] at e
  rw [e] at hz
  refine ⟨a, mem_nz.mpr ⟨hfa, fun z => hz (by rw [z, Int.zero_fmod])⟩, ?_⟩
  rw [← e]
  exact hl
theorem turned_sameB (hf : ∀ a ∈ free, a < w) (hn : free.Nodup) (h8 : free.length ≤ 8) (B BJ : Nat) : ∀ (n : Nat) (cols inv : List (List Int)) (M J N : Nat), Inverse w cols inv → BdC cols free M → BdI inv J →
    (∀ a ∈ free, (dot coefs (row cols a)).natAbs ≤ N) → SameS cols coefs free → M ≤ 2 * B → J ≤ 9 * BJ →
    (2 ≤ (nz cols coefs free).length → ∀ p ∈ nz cols coefs free, (∀ a ∈ nz cols coefs free, (dot coefs (row cols p)).natAbs ≤ (dot coefs (row cols a)).natAbs) → M * (N * N * (dot coefs (row cols p)).natAbs) ≤ B ∧ J * (N * N * (dot coefs (row cols p)).natAbs) ^ 3 ≤ BJ) →
    BdC (turnF n cols inv free coefs).1 free (2 * B) ∧ BdI (turnF n cols inv free coefs).2.1 (9 * BJ)
  | 0, cols, inv, M, J, N, _, bM, bJ, _, _, lM, lJ, _ => ⟨fun a ha i => Nat.le_trans (bM a ha i) lM, fun b i => Nat.le_trans (bJ b i) lJ⟩
  | n + 1, cols, inv, M, J, N, I, bM, bJ, hN, hs, lM, lJ, hP => by
    rcases turnF_cases n cols inv free coefs with ⟨h, e⟩ | ⟨a, h, e⟩ | ⟨h2, p, hp, hm, e⟩
    · rw [e]
      exact ⟨fun a ha i => Nat.le_trans (bM a ha i) lM, fun b i => Nat.le_trans (bJ b i) lJ⟩
    · rw [e]
      exact ⟨fun a ha i => Nat.le_trans (bM a ha i) lM, fun b i => Nat.le_trans (bJ b i) lJ⟩
    · rw [e]
      obtain ⟨c1, c2⟩ := hP h2 p hp hm
      have hpf := (mem_nz.mp hp).1
      have hz := (mem_nz.mp hp).2
      have hpw := hf p hpf
      have hP1 : 1 ≤ (dot coefs (row cols p)).natAbs := by omega
      have hNp := hN p hpf
      have side : ∀ a ∈ free, Side (dot coefs (row cols a)) (dot coefs (row cols p)) := fun a ha => by
        unfold Side
        rcases hs with h | h
        · have z1 := h a ha
          have z2 := h p hpf
          omega
        · have z1 := h a ha
          have z2 := h p hpf
          omega
      have hq : ∀ a ∈ nz cols coefs free, a ≠ p → ((dot coefs (row cols a)).fdiv (dot coefs (row cols p))).natAbs ≤ N / (dot coefs (row cols p)).natAbs := fun a ha _ => by
        have s := fdiv_side (side a (mem_nz.mp ha).1)
        have t := hN a (mem_nz.mp ha).1
        exact (Nat.le_div_iff_mul_le (by omega)).mpr (by omega)
      obtain ⟨bM', bJ'⟩ := pass_bd I hp hf hn h8 bM bJ hq
      obtain ⟨I1, _⟩ := pass_fold (q := quo (fnd cols coefs free) p) hpw (nz cols coefs free) cols inv I (hn.filter _) fun a ha => hf a (mem_nz.mp ha).1
      have qN : N / (dot coefs (row cols p)).natAbs * (dot coefs (row cols p)).natAbs ≤ N := Nat.div_mul_le_self _ _
      have q1 : 1 ≤ N / (dot coefs (row cols p)).natAbs := (Nat.le_div_iff_mul_le (by omega)).mpr (by omega)
      generalize hP0 : (dot coefs (row cols p)).natAbs = P at *
      generalize hq0 : N / P = q at *
      have qN1 : q ≤ N := Nat.le_trans (Nat.le_mul_of_pos_right q hP1) qN
      have N1 : 1 ≤ N := by omega
      have NP : N ≤ N * N * P := by
        rw [Nat.mul_assoc]
        exact Nat.le_mul_of_pos_right _ (Nat.mul_pos N1 hP1)
      refine turned_sameB hf hn h8 B BJ n _ _ (M * (1 + q)) (J * (1 + 8 * q)) P I1 bM' bJ' (fun a ha => by rw [← hP0]; exact pass_top I hp hf hn a ha) (pass_same I hp hf hn) ?_ ?_ fun h3 p2 hp2 hm2 => ?_
      · have : M * (1 + q) ≤ M * (2 * (N * N * P)) := Nat.mul_le_mul_left _ (by omega)
        have e2 : M * (2 * (N * N * P)) = 2 * (M * (N * N * P)) := by grind
        omega
      · have e0 : N * N * P ≤ (N * N * P) ^ 3 := Nat.le_self_pow (by decide) _
        have : J * (1 + 8 * q) ≤ J * (9 * (N * N * P) ^ 3) := Nat.mul_le_mul_left _ (by omega)
        have e2 : J * (9 * (N * N * P) ^ 3) = 9 * (J * (N * N * P) ^ 3) := by grind
        omega
      · obtain ⟨a, ha, hl⟩ := pass_low I hp hf hn h3 hm2
        have s := fdiv_side (side a (mem_nz.mp ha).1)
        have t := hN a (mem_nz.mp ha).1
        have hma := hm a ha
        have hr := (fmod_facts (a := dot coefs (row cols a)) hz).2.1
        rw [hP0] at hr s
        have hqa : 1 ≤ ((dot coefs (row cols a)).fdiv (dot coefs (row cols p))).natAbs := by
          rcases Nat.eq_zero_or_pos ((dot coefs (row cols a)).fdiv (dot coefs (row cols p))).natAbs with z | z
          · rw [z] at s
            omega
          · exact z
        have hge : P ≤ ((dot coefs (row cols a)).fdiv (dot coefs (row cols p))).natAbs * P := Nat.le_mul_of_pos_left _ hqa
        generalize hp20 : (dot coefs (row (passC cols inv free coefs p).1 p2)).natAbs = P2 at *
        have x1 := pot1 (p := P) (p' := P2) (N := N) (q := q) (by omega) (by omega) qN
        have x3 := pot3 (p := P) (p' := P2) (N := N) (q := q) (by omega) (by omega) qN
        constructor
        · have e1 : M * (1 + q) * (P * P * P2) = M * P * ((1 + q) * (P * P2)) := by grind
          have e2 : M * P * ((1 + q) * (P * P2)) ≤ M * P * (N * N) := Nat.mul_le_mul_left _ x1
          have e3 : M * P * (N * N) = M * (N * N * P) := by grind
          omega
        · have e1 : J * (1 + 8 * q) * (P * P * P2) ^ 3 = J * P ^ 3 * ((1 + 8 * q) * (P * P2) ^ 3) := by grind
          have e2 : J * P ^ 3 * ((1 + 8 * q) * (P * P2) ^ 3) ≤ J * P ^ 3 * (N * N) ^ 3 := Nat.mul_le_mul_left _ x3
          have e3 : J * P ^ 3 * (N * N) ^ 3 = J * (N * N * P) ^ 3 := by grind
          omega
/-- whatever the signs at first -/
theorem turned_bound (hf : ∀ a ∈ free, a < w) (hn : free.Nodup) (h8 : free.length ≤ 8) {n M J N : Nat} (I : Inverse w cols inv) (bM : BdC cols free M) (bJ : BdI inv J)
    (hN : ∀ a ∈ free, (dot coefs (row cols a)).natAbs ≤ N) (N1 : 1 ≤ N) : BdC (turnF n cols inv free coefs).1 free (6 * (M * N ^ 3)) ∧ BdI (turnF n cols inv free coefs).2.1 (153 * (J * N ^ 9)) := by
  have N3' : 1 ≤ N ^ 3 := Nat.pow_pos N1
  have N9' : 1 ≤ N ^ 9 := Nat.pow_pos N1
  have M0' : M ≤ 6 * (M * N ^ 3) := by
    have : M ≤ M * N ^ 3 := Nat.le_mul_of_pos_right _ N3'
    omega
  have J0' : J ≤ 153 * (J * N ^ 9) := by
    have : J ≤ J * N ^ 9 := Nat.le_mul_of_pos_right _ N9'
    omega
  match n with
  | 0 => exact ⟨fun a ha i => Nat.le_trans (bM a ha i) M0', fun b i => Nat.le_trans (bJ b i) J0'⟩
  | n + 1 =>
    have N3 : 1 ≤ N ^ 3 := Nat.pow_pos N1
    have N9 : 1 ≤ N ^ 9 := Nat.pow_pos N1
    have M0 : M ≤ 6 * (M * N ^ 3) := by
      have : M ≤ M * N ^ 3 := Nat.le_mul_of_pos_right _ N3
      omega
    have J0 : J ≤ 153 * (J * N ^ 9) := by
      have : J ≤ J * N ^ 9 := Nat.le_mul_of_pos_right _ N9
      omega
    rcases turnF_cases n cols inv free coefs with ⟨h, e⟩ | ⟨a, h, e⟩ | ⟨h2, p, hp, hm, e⟩
    · rw [e]
      exact ⟨fun a ha i => Nat.le_trans (bM a ha i) M0, fun b i => Nat.le_trans (bJ b i) J0⟩
    · rw [e]
      exact ⟨fun a ha i => Nat.le_trans (bM a ha i) M0, fun b i => Nat.le_trans (bJ b i) J0⟩
    · rw [e]
      have hpf := (mem_nz.mp hp).1
      have hz := (mem_nz.mp hp).2
      have hpw := hf p hpf
      have hP1 : 1 ≤ (dot coefs (row cols p)).natAbs := by omega
      have hNp := hN p hpf
      have hq : ∀ a ∈ nz cols coefs free, a ≠ p → ((dot coefs (row cols a)).fdiv (dot coefs (row cols p))).natAbs ≤ N / (dot coefs (row cols p)).natAbs + 1 := fun a ha _ => by
        refine Nat.le_trans (fdiv_le hz) ?_
        have := Nat.div_le_div_right (c := (dot coefs (row cols p)).natAbs) (hN a (mem_nz.mp ha).1)
        omega
      obtain ⟨bM', bJ'⟩ := pass_bd I hp hf hn h8 bM bJ hq
      obtain ⟨I1, _⟩ := pass_fold (q := quo (fnd cols coefs free) p) hpw (nz cols coefs free) cols inv I (hn.filter _) fun a ha => hf a (mem_nz.mp ha).1
      have qN : N / (dot coefs (row cols p)).natAbs * (dot coefs (row cols p)).natAbs ≤ N := Nat.div_mul_le_self _ _
      have q1 : 1 ≤ N / (dot coefs (row cols p)).natAbs := (Nat.le_div_iff_mul_le (by omega)).mpr (by omega)
      have top := pass_top I hp hf hn
      have hr : ∀ a, ((dot coefs (row cols a)).fmod (dot coefs (row cols p))).natAbs < (dot coefs (row cols p)).natAbs := fun a => (fmod_facts (a := dot coefs (row cols a)) hz).2.1
      generalize hP0 : (dot coefs (row cols p)).natAbs = P at *
      generalize hq0 : N / P = q at *
      have qN1 : q ≤ N := Nat.le_trans (Nat.le_mul_of_pos_right q hP1) qN
      have N13 : N ≤ N ^ 3 := Nat.le_self_pow (by decide) _
      have N19 : N ≤ N ^ 9 := Nat.le_self_pow (by decide) _
      have res := turned_sameB hf hn h8 (3 * (M * N ^ 3)) (17 * (J * N ^ 9)) n _ _ (M * (1 + (q + 1))) (J * (1 + 8 * (q + 1))) P I1 bM' bJ' top (pass_same I hp hf hn) ?_ ?_ fun h3 p2 hp2 hm2 => ?_
      · refine ⟨fun a ha i => Nat.le_trans (res.1 a ha i) ?_, fun b i => Nat.le_trans (res.2 b i) ?_⟩ <;> omega
      · have : M * (1 + (q + 1)) ≤ M * (3 * N ^ 3) := Nat.mul_le_mul_left _ (by omega)
        have e2 : M * (3 * N ^ 3) = 3 * (M * N ^ 3) := by grind
        omega
      · have : J * (1 + 8 * (q + 1)) ≤ J * (17 * N ^ 9) := Nat.mul_le_mul_left _ (by omega)
        have e2 : J * (17 * N ^ 9) = 17 * (J * N ^ 9) := by grind
        omega
      · obtain ⟨a, ha, hl⟩ := pass_low I hp hf hn h3 hm2
        have hra := hr a
        generalize hp20 : (dot coefs (row (passC cols inv free coefs p).1 p2)).natAbs = P2 at *
        have p2N : P2 ≤ N := by omega
        have PN : P ≤ N := hNp
        constructor
        · have e1 : M * (1 + (q + 1)) * (P * P * P2) ≤ M * (3 * q) * (P * N * N) := Nat.mul_le_mul (Nat.mul_le_mul_left _ (by omega)) (Nat.mul_le_mul (Nat.mul_le_mul_left _ PN) p2N)
          have e2 : M * (3 * q) * (P * N * N) = 3 * M * (q * P) * (N * N) := by grind
          have e3 : 3 * M * (q * P) * (N * N) ≤ 3 * M * N * (N * N) := Nat.mul_le_mul_right _ (Nat.mul_le_mul_left _ qN)
          have e4 : 3 * M * N * (N * N) = 3 * (M * N ^ 3) := by grind
          omega
        · have e0 : P * P * P2 ≤ P * N * N := Nat.mul_le_mul (Nat.mul_le_mul_left _ PN) p2N
          have e1 : J * (1 + 8 * (q + 1)) * (P * P * P2) ^ 3 ≤ J * (17 * q) * (P * N * N) ^ 3 := Nat.mul_le_mul (Nat.mul_le_mul_left _ (by omega)) (Nat.pow_le_pow_left e0 3)
          have e2 : J * (17 * q) * (P * N * N) ^ 3 = 17 * J * (q * P) * (P ^ 2 * N ^ 6) := by grind
          have e3 : 17 * J * (q * P) * (P ^ 2 * N ^ 6) ≤ 17 * J * N * (N ^ 2 * N ^ 6) := Nat.mul_le_mul (Nat.mul_le_mul_left _ qN) (Nat.mul_le_mul_right _ (Nat.pow_le_pow_left PN 2))
          have e4 : 17 * J * N * (N ^ 2 * N ^ 6) = 17 * (J * N ^ 9) := by grind
          omega
end
end CfM

namespace CfM
/-! dicts as lists of pairs -/
def HasK (l : List (Nat × Int)) (k : Nat) : Prop := k ∈ l.map (·.1)
def addAt (l : List (Nat × Int)) (k : Nat) (d : Int) : List (Nat × Int) := l.map fun p => if p.1 = k then (p.1, p.2 + d) else p
theorem lk_cons (p : Nat × Int) (l : List (Nat × Int)) (k : Nat) : lk (p :: l) k = if p.1 = k then p.2 else lk l k := by
  unfold lk
  rw [List.find?_cons]
  by_cases h : p.1 = k
  · rw [if_pos h]
    simp [h]
  · rw [if_neg h]
    simp only [show (p.1 == k) = false from by simpa using h]
theorem addAt_keys (l : List (Nat × Int)) (k : Nat) (d : Int) : (addAt l k d).map (·.1) = l.map (·.1) := by
  unfold addAt
  rw [List.map_map]
  apply List.map_congr_left
  intro p _
  show (if p.1 = k then (p.1, p.2 + d) else p).1 = p.1
  split <;> rfl
theorem lk_addAt : ∀ {l : List (Nat × Int)} {k : Nat}, HasK l k → ∀ (d : Int) (j : Nat), lk (addAt l k d) j = if j = k then lk l j + d else lk l j
  | p :: l, k, h, d, j => by
    have e : addAt (p :: l) k d = (if p.1 = k then (p.1, p.2 + d) else p) :: addAt l k d := rfl
    rw [e, lk_cons, lk_cons]
    have e1 : (if p.1 = k then (p.1, p.2 + d) else p).1 = p.1 := by split <;> rfl
    rw [e1]
    by_cases h1 : p.1 = j
    · rw [if_pos h1, if_pos h1]
      by_cases h2 : j = k
      · rw [if_pos h2, if_pos (h1.trans h2)]
      · rw [if_neg h2, if_neg (fun z => h2 (h1.symm.trans z))]
    · rw [if_neg h1, if_neg h1]
      by_cases h3 : HasK l k
      · exact lk_addAt h3 d j
      · have h4 : k = p.1 := by
          rcases List.mem_cons.mp h with z | z
          · exact z
          · exact absurd z h3
        rw [if_neg (fun z => h1 (h4.symm.trans z.symm))]
        have e2 : addAt l k d = l := by
          unfold addAt
          conv => rhs; rw [← List.map_id l]
          apply List.map_congr_left
          intro x hx
          exact if_neg fun z => h3 (List.mem_map.mpr ⟨x, hx, z⟩)
        rw [e2]
theorem lk_map {part : Int} : ∀ (l : List (Nat × Int)) (k : Nat), lk (l.map fun x => (x.1, part * x.2)) k = part * lk l k
  | [], k => by show (0 : Int) = part * 0; simp
  | p :: l, k => by
    rw [List.map_cons, lk_cons, lk_cons, lk_map l k]
    split <;> rfl
theorem map_keys {part : Int} (l : List (Nat × Int)) : (l.map fun x => (x.1, part * x.2)).map (·.1) = l.map (·.1) := by
  rw [List.map_map]
  rfl
theorem addAll_keys {w : Int} : ∀ (os l : List (Nat × Int)), (os.foldl (fun l x => addAt l x.1 (w * x.2)) l).map (·.1) = l.map (·.1)
  | [], l => rfl
  | o :: os, l => by rw [List.foldl_cons, addAll_keys os, addAt_keys]
theorem lk_addAll {w : Int} : ∀ (os l : List (Nat × Int)) (j : Nat), (os.map (·.1)).Nodup → (∀ k ∈ os.map (·.1), HasK l k) → lk (os.foldl (fun l x => addAt l x.1 (w * x.2)) l) j = lk l j + w * lk os j
  | [], l, j, _, _ => by show lk l j = lk l j + w * 0; simp
  | o :: os, l, j, hn, hk => by
    rw [List.map_cons, List.nodup_cons] at hn
    have hko : HasK l o.1 := hk o.1 (by simp)
    have hk' : ∀ k ∈ os.map (·.1), HasK (addAt l o.1 (w * o.2)) k := fun k hm => by
      unfold HasK
      rw [addAt_keys]
      exact hk k (by rw [List.map_cons]; exact List.mem_cons_of_mem _ hm)
    rw [List.foldl_cons, lk_addAll os _ j hn.2 hk', lk_addAt hko, lk_cons]
    by_cases h : j = o.1
    · rw [if_pos h, if_pos h.symm]
      have z : lk os j = 0 := by
        unfold lk
        have : os.find? (fun p => p.1 == j) = none := by
          rw [List.find?_eq_none]
          intro x hx
          have : x.1 ≠ j := fun z => hn.1 (List.mem_map.mpr ⟨x, hx, z.trans h⟩)
          simpa using this
        rw [this]
        rfl
      rw [z]; omega
    · rw [if_neg h, if_neg (Ne.symm h)]
theorem lk_mapf {α : Type} (f : α → Nat) (v : α → Int) : ∀ {l : List α} {x : α}, (l.map f).Nodup → x ∈ l → lk (l.map fun y => (f y, v y)) (f x) = v x
  | y :: l, x, hn, hx => by
    rw [List.map_cons, List.nodup_cons] at hn
    rw [List.map_cons, lk_cons]
    rcases List.mem_cons.mp hx with z | z
    · subst z
      rw [if_pos rfl]
    · rw [if_neg (fun q => hn.1 (List.mem_map.mpr ⟨x, z, q.symm⟩))]
      exact lk_mapf f v hn.2 z

/-! the mirror of weighed -/
structure Pin where
  at_ : Nat
  place : Nat
  whole : Int
  others : List (Nat × Int)
  value : Int
abbrev WS := List Int × Int × List (Nat × Int)
def partOf (p : Pin) (s : WS) : Int := Int.fdiv (p.whole.natAbs : Int) ((Nat.gcd p.whole.natAbs (lk s.2.2 p.at_).natAbs : Nat) : Int)
def wOf (p : Pin) (s : WS) : Int := Int.fdiv (-(lk (s.2.2.map fun x => (x.1, partOf p s * x.2)) p.at_)) p.whole
def wstep (s : WS) (p : Pin) : WS :=
  ((s.1.map fun x => partOf p s * x).set p.place (wOf p s), s.2.1 * partOf p s, p.others.foldl (fun l x => addAt l x.1 (wOf p s * x.2)) (s.2.2.map fun x => (x.1, partOf p s * x.2)))
def wstart (many : Nat) (products : List (Nat × Int)) (number : Nat) : WS := ((List.replicate many 0).set number 1, 1, products)
def weighedM (many : Nat) (pins : List Pin) (products : List (Nat × Int)) (number : Nat) : WS := pins.reverse.foldl wstep (wstart many products number)

/-- what the pins are over rows' coefs A -/
inductive PinsOk (A : Nat → List Int) (cols : List (List Int)) : List Pin → Prop
  | nil : PinsOk A cols []
  | snoc {pins : List Pin} (h : PinsOk A cols pins) (p : Pin) (hw : p.whole = dot (A p.place) (row cols p.at_)) (h0 : p.whole ≠ 0) (ho : p.others = pins.map fun x => (x.at_, dot (A p.place) (row cols x.at_)))
    (hl : ∀ x ∈ pins, dot (A x.place) (row cols p.at_) = 0) (hp : ∀ x ∈ pins, x.place ≠ p.place) (ha : ∀ x ∈ pins, x.at_ ≠ p.at_) : PinsOk A cols (pins ++ [p])
theorem PinsOk.nodup {A : Nat → List Int} {cols : List (List Int)} {pins : List Pin} (h : PinsOk A cols pins) : (pins.map (·.at_)).Nodup := by
  induction h with
  | nil => exact List.nodup_nil
  | snoc h p hw h0 ho hl hp ha ih =>
    rw [List.map_append, List.nodup_append]
    refine ⟨ih, by simp, fun a ha1 b hb => ?_⟩
    obtain ⟨x, hx, rfl⟩ := List.mem_map.mp ha1
    rw [List.map_singleton, List.mem_singleton] at hb
    rw [hb]
    exact ha x hx
/-- rows added with weights, times a column -/
def comb (A : Nat → List Int) (many : Nat) (ws : List Int) (u : List Int) : Int := S many fun k => g ws k * dot (A k) u
theorem g_map {f : Int → Int} (h0 : f 0 = 0) (ws : List Int) (k : Nat) : g (ws.map f) k = f (g ws k) := by
  by_cases h : k < ws.length
  · have e : (ws.map f)[k]? = some (f (g ws k)) := by rw [List.getElem?_map, g_in h]; rfl
    rw [g_in (by rw [List.length_map]; exact h)] at e
    exact Option.some.inj e
  · rw [g_out (by rw [List.length_map]; omega), g_out (show ws.length ≤ k by omega), h0]
theorem g_set {ws : List Int} {k j : Nat} {v : Int} (h : k < ws.length) : g (ws.set k v) j = if j = k then v else g ws j := by
  unfold g
  rw [List.getD_eq_getElem?_getD, List.getD_eq_getElem?_getD, List.getElem?_set]
  by_cases e : j = k
  · subst e
    rw [if_pos rfl, if_pos h, if_pos rfl]
    rfl
  · rw [if_neg (Ne.symm e), if_neg e]
theorem part_pos {p : Pin} {s : WS} (h : p.whole ≠ 0) : 1 ≤ partOf p s ∧ partOf p s ≤ p.whole.natAbs ∧ p.whole ∣ partOf p s * lk s.2.2 p.at_ := by
  unfold partOf
  generalize lk s.2.2 p.at_ = l
  generalize p.whole = W at *
  have hW : 0 < W.natAbs := by omega
  have hg : 0 < Nat.gcd W.natAbs l.natAbs := Nat.gcd_pos_of_pos_left _ hW
  obtain ⟨t, ht⟩ := Nat.gcd_dvd_left W.natAbs l.natAbs
  obtain ⟨r, hr⟩ := Nat.gcd_dvd_right W.natAbs l.natAbs
  have e : Int.fdiv (W.natAbs : Int) ((Nat.gcd W.natAbs l.natAbs : Nat) : Int) = (t : Int) := by
    rw [Int.fdiv_eq_ediv_of_nonneg _ (by omega)]
    have : ((W.natAbs : Nat) : Int) / ((Nat.gcd W.natAbs l.natAbs : Nat) : Int) = ((W.natAbs / Nat.gcd W.natAbs l.natAbs : Nat) : Int) := rfl
    rw [this]
    congr 1
    exact Nat.div_eq_of_eq_mul_right hg ht
  rw [e]
  have ht1 : 1 ≤ t := by
    rcases Nat.eq_zero_or_pos t with z | z
    · rw [z, Nat.mul_zero] at ht; omega
    · exact z
  refine ⟨by omega, ?_, ?_⟩
  · have : t ≤ Nat.gcd W.natAbs l.natAbs * t := Nat.le_mul_of_pos_left _ hg
    omega
  · have : W.natAbs ∣ ((t : Int) * l).natAbs := by
      rw [Int.natAbs_mul, Int.natAbs_natCast]
      refine ⟨r, ?_⟩
      have e1 : t * l.natAbs = t * (Nat.gcd W.natAbs l.natAbs * r) := congrArg (t * ·) hr
      have e2 : W.natAbs * r = (Nat.gcd W.natAbs l.natAbs * t) * r := congrArg (· * r) ht
      grind
    exact Int.natAbs_dvd_natAbs.mp this
structure WInv (A : Nat → List Int) (many : Nat) (cols : List (List Int)) (number : Nat) (pins ys : List Pin) (s : WS) : Prop where
  len : s.1.length = many
  keys : ∀ x ∈ pins, HasK s.2.2 x.at_
  left : ∀ x ∈ pins, lk s.2.2 x.at_ = comb A many s.1 (row cols x.at_)
  done : ∀ y ∈ ys, comb A many s.1 (row cols y.at_) = 0
  num : g s.1 number = s.2.1
  pos : 1 ≤ s.2.1
  zero : ∀ k, k ≠ number → (∀ y ∈ ys, y.place ≠ k) → g s.1 k = 0
theorem weighed_inv {A : Nat → List Int} {many number : Nat} {cols : List (List Int)} {pins : List Pin} (h : PinsOk A cols pins) : ∀ (ys : List Pin) (s : WS), (∀ p ∈ pins, p.place < many ∧ p.place ≠ number) → (∀ p ∈ pins, ∀ y ∈ ys, p.place ≠ y.place ∧ dot (A p.place) (row cols y.at_) = 0) →
    WInv A many cols number pins ys s → WInv A many cols number [] (pins ++ ys) (pins.reverse.foldl wstep s) := by
  induction h with
  | nil => intro ys s _ _ I; exact I
  | @snoc pins h p hw h0 ho hl hp ha ih =>
    intro ys s hpl hy I
    rw [List.reverse_append, List.reverse_singleton, List.singleton_append, List.foldl_cons, List.append_assoc, List.singleton_append]
    have hpm : p ∈ pins ++ [p] := by simp
    obtain ⟨p1, p2⟩ := hpl p hpm
    obtain ⟨q1, _, q3⟩ := part_pos (s := s) h0
    have nd := h.nodup
    have hlen1 : p.place < (s.1.map fun x => partOf p s * x).length := by rw [List.length_map, I.len]; exact p1
    have gz : g s.1 p.place = 0 := I.zero p.place p2 fun y hm z => (hy p hpm y hm).1 z.symm
    have gws : ∀ k, g (wstep s p).1 k = if k = p.place then wOf p s else partOf p s * g s.1 k := fun k => by
      unfold wstep
      rw [g_set hlen1, g_map (Int.mul_zero _)]
    have cws : ∀ u, comb A many (wstep s p).1 u = partOf p s * comb A many s.1 u + wOf p s * dot (A p.place) u := fun u => by
      unfold comb
      have e : S many (fun k => g (wstep s p).1 k * dot (A k) u) = S many (fun k => partOf p s * (g s.1 k * dot (A k) u) + if k = p.place then wOf p s * dot (A p.place) u else 0) := S_congr fun k _ => by
        rw [gws]
        by_cases z : k = p.place
        · rw [if_pos z, if_pos z, z, gz]; simp
        · rw [if_neg z, if_neg z]; grind
      rw [e, S_add, S_mul, S_one p1 (fun i _ z => if_neg z), if_pos rfl]
    have hx : ∀ x ∈ pins, x ∈ pins ++ [p] := fun x hm => List.mem_append_left _ hm
    have lw : p.whole * wOf p s = -(partOf p s * lk s.2.2 p.at_) := by
      unfold wOf
      rw [lk_map]
      obtain ⟨t, ht⟩ := q3
      rw [ht, show -(p.whole * t) = (-t) * p.whole by grind, Int.mul_fdiv_cancel _ h0]
      grind
    refine ih (p :: ys) (wstep s p) (fun x hm => hpl x (hx x hm)) (fun x hm y hmy => ?_) ⟨?_, fun x hm => ?_, fun x hm => ?_, fun y hm => ?_, ?_, ?_, fun k hk hz => ?_⟩
    · rcases List.mem_cons.mp hmy with z | z
      · rw [z]; exact ⟨hp x hm, hl x hm⟩
      · exact hy x (hx x hm) y z
    · unfold wstep
      rw [List.length_set, List.length_map]; exact I.len
    · unfold HasK wstep
      rw [addAll_keys, map_keys]
      exact I.keys x (hx x hm)
    · have e1 : lk (wstep s p).2.2 x.at_ = lk (s.2.2.map fun x => (x.1, partOf p s * x.2)) x.at_ + wOf p s * lk p.others x.at_ := by
        unfold wstep
        refine lk_addAll _ _ _ ?_ fun k hk => ?_
        · rw [ho, List.map_map]
          exact nd
        · rw [ho, List.map_map] at hk
          obtain ⟨z, hz, rfl⟩ := List.mem_map.mp hk
          unfold HasK
          rw [map_keys]
          exact I.keys z (hx z hz)
      rw [e1, lk_map, cws, I.left x (hx x hm), ho, lk_mapf (fun y : Pin => y.at_) (fun y => dot (A p.place) (row cols y.at_)) nd hm]
    · rw [cws]
      rcases List.mem_cons.mp hm with z | z
      · rw [z, ← hw, ← I.left p hpm, Int.mul_comm (wOf p s), lw]
        omega
      · rw [I.done y z, (hy p hpm y z).2]; simp
    · rw [gws, if_neg (Ne.symm p2), I.num]
      unfold wstep
      exact Int.mul_comm _ _
    · unfold wstep
      have := Int.mul_le_mul I.pos q1 (by omega) (Int.le_trans (by decide) I.pos)
      simpa using this
    · rw [gws, if_neg (fun z => hz p List.mem_cons_self z.symm), I.zero k hk fun y hm => hz y (List.mem_cons_of_mem _ hm)]
      simp
/-- how great they grow -/
structure WBd (X : Nat) (s : WS) : Prop where
  ws : ∀ k, (g s.1 k).natAbs ≤ X
  often : s.2.1.natAbs ≤ X
  left : ∀ x ∈ s.2.2, x.2.natAbs ≤ X
theorem lk_mem {l : List (Nat × Int)} {k : Nat} {X : Nat} (h : ∀ x ∈ l, x.2.natAbs ≤ X) : (lk l k).natAbs ≤ X := by
  unfold lk
  cases e : l.find? (fun p => p.1 == k) with
  | none => simp
  | some p => exact h p (List.mem_of_find?_eq_some e)
theorem part_le {p : Pin} {s : WS} {W : Nat} (h0 : p.whole ≠ 0) (hW : p.whole.natAbs ≤ W) : (partOf p s).natAbs ≤ W := by
  obtain ⟨a, b, _⟩ := part_pos (s := s) h0
  omega
theorem wOf_le {p : Pin} {s : WS} {W X : Nat} (h0 : p.whole ≠ 0) (hW : p.whole.natAbs ≤ W) (B : WBd X s) : (wOf p s).natAbs ≤ W * X := by
  obtain ⟨_, _, t, ht⟩ := part_pos (s := s) h0
  unfold wOf
  rw [lk_map, ht, show -(p.whole * t) = (-t) * p.whole by grind, Int.mul_fdiv_cancel _ h0, Int.natAbs_neg]
  have e : p.whole.natAbs * t.natAbs = (partOf p s).natAbs * (lk s.2.2 p.at_).natAbs := by rw [← Int.natAbs_mul, ← Int.natAbs_mul, ht]
  have h1 : t.natAbs ≤ p.whole.natAbs * t.natAbs := Nat.le_mul_of_pos_left _ (by omega)
  have h2 := Nat.mul_le_mul (part_le (s := s) h0 hW) (lk_mem (k := p.at_) B.left)
  omega
theorem addAll_bd {w : Int} {Y Z : Nat} : ∀ (os l : List (Nat × Int)), (∀ x ∈ os, (w * x.2).natAbs ≤ Z) → (os.map (·.1)).Nodup → ∀ x ∈ os.foldl (fun l x => addAt l x.1 (w * x.2)) l, ∃ y ∈ l, y.1 = x.1 ∧ (x.2 = y.2 ∨ (x.1 ∈ os.map (·.1) ∧ x.2.natAbs ≤ y.2.natAbs + Z))
  | [], l, _, _, x, hx => ⟨x, hx, rfl, .inl rfl⟩
  | o :: os, l, hz, hn, x, hx => by
    rw [List.map_cons, List.nodup_cons] at hn
    rw [List.foldl_cons] at hx
    obtain ⟨y, hy, e1, e2⟩ := addAll_bd (Y := Y) os _ (fun z h => hz z (List.mem_cons_of_mem _ h)) hn.2 x hx
    unfold addAt at hy
    obtain ⟨z, hzl, ez⟩ := List.mem_map.mp hy
    by_cases h : z.1 = o.1
    · rw [if_pos h] at ez
      have e3 : y.1 = o.1 := by rw [← ez]; exact h
      have hno : x.1 ∉ os.map (·.1) := by rw [← e1, e3]; exact hn.1
      refine ⟨z, hzl, by rw [h, ← e3, e1], .inr ⟨by rw [← e1, e3]; simp, ?_⟩⟩
      rcases e2 with e2 | e2
      · rw [e2, ← ez]
        have := hz o List.mem_cons_self
        show (z.2 + w * o.2).natAbs ≤ z.2.natAbs + Z
        generalize w * o.2 = q at this ⊢
        omega
      · exact absurd e2.1 hno
    · rw [if_neg h] at ez
      subst ez
      refine ⟨z, hzl, e1, ?_⟩
      rcases e2 with e2 | e2
      · exact .inl e2
      · exact .inr ⟨by rw [List.map_cons]; exact List.mem_cons_of_mem _ e2.1, e2.2⟩
theorem wstep_bd {p : Pin} {s : WS} {W X : Nat} (h0 : p.whole ≠ 0) (hW : p.whole.natAbs ≤ W) (ho : ∀ x ∈ p.others, x.2.natAbs ≤ W) (hn : (p.others.map (·.1)).Nodup) (hl : p.place < s.1.length) (B : WBd X s) : WBd (2 * (W * W) * X) (wstep s p) := by
  have q1 := part_le (s := s) h0 hW
  have q2 := wOf_le h0 hW B
  have W1 : 1 ≤ W := by omega
  have m1 : W * X ≤ W * W * X := Nat.mul_le_mul_right _ (Nat.le_mul_of_pos_left _ W1)
  have m2 : 2 * (W * W) * X = 2 * (W * W * X) := Nat.mul_assoc _ _ _
  refine ⟨fun k => ?_, ?_, fun x hx => ?_⟩
  · have e : g (wstep s p).1 k = if k = p.place then wOf p s else partOf p s * g s.1 k := by
      unfold wstep
      rw [g_set (by rw [List.length_map]; exact hl), g_map (Int.mul_zero _)]
    rw [e]
    split
    · omega
    · rw [Int.natAbs_mul]
      have := Nat.mul_le_mul q1 (B.ws k)
      omega
  · show (s.2.1 * partOf p s).natAbs ≤ _
    rw [Int.natAbs_mul, Nat.mul_comm]
    have := Nat.mul_le_mul q1 B.often
    omega
  · unfold wstep at hx
    obtain ⟨y, hy, _, e2⟩ := addAll_bd (Y := 0) (Z := W * X * W) _ _ (fun z hz => by
      rw [Int.natAbs_mul]
      exact Nat.mul_le_mul q2 (ho z hz)) hn x hx
    obtain ⟨z, hz, ez⟩ := List.mem_map.mp hy
    have hyb : y.2.natAbs ≤ W * X := by
      rw [← ez]
      show (partOf p s * z.2).natAbs ≤ _
      rw [Int.natAbs_mul]
      exact Nat.mul_le_mul q1 (B.left z hz)
    have e3 : W * X * W = W * W * X := by grind
    rcases e2 with e2 | e2
    · rw [e2]; omega
    · have := e2.2
      omega
end CfM

namespace CfM
/-! the rest made short -/
def shareM (ws : List Int) (d : Int) : Int := ws.foldl (fun s w => ((Nat.gcd s.natAbs w.natAbs : Nat) : Int)) d
def restM (ws : List Int) (d : Int) : List Int × Int := (ws.map fun w => (w.fdiv (shareM ws d)).fmod (d.fdiv (shareM ws d)), d.fdiv (shareM ws d))
theorem shareM_dvd : ∀ (ws : List Int) (d : Int), 0 < d → 0 < shareM ws d ∧ shareM ws d ∣ d ∧ ∀ w ∈ ws, shareM ws d ∣ w
  | [], d, h => ⟨h, Int.dvd_refl _, fun _ z => nomatch z⟩
  | w :: ws, d, h => by
    have hg : 0 < Nat.gcd d.natAbs w.natAbs := Nat.gcd_pos_of_pos_left _ (by omega)
    obtain ⟨h1, h2, h3⟩ := shareM_dvd ws ((Nat.gcd d.natAbs w.natAbs : Nat) : Int) (by omega)
    have e : shareM (w :: ws) d = shareM ws ((Nat.gcd d.natAbs w.natAbs : Nat) : Int) := rfl
    rw [e]
    have a1 : ((Nat.gcd d.natAbs w.natAbs : Nat) : Int) ∣ d := Int.natAbs_dvd_natAbs.mp (by rw [Int.natAbs_natCast]; exact Nat.gcd_dvd_left _ _)
    have a2 : ((Nat.gcd d.natAbs w.natAbs : Nat) : Int) ∣ w := Int.natAbs_dvd_natAbs.mp (by rw [Int.natAbs_natCast]; exact Nat.gcd_dvd_right _ _)
    refine ⟨h1, Int.dvd_trans h2 a1, fun z hz => ?_⟩
    rcases List.mem_cons.mp hz with q | q
    · rw [q]; exact Int.dvd_trans h2 a2
    · exact h3 z q
/-- rows added: the entry at place j -/
def total (R : List (List Int)) (ws : List Int) (j : Nat) : Int := S R.length fun k => g ws k * ent R k j
structure RestOk (w : Nat) (R : List (List Int)) (ws : List Int) (d : Int) : Prop where
  len : ws.length = R.length
  two : 2 ≤ d
  low : ∀ x ∈ ws, 0 ≤ x ∧ x < d
  coef : ∀ j, 1 ≤ j → j ≤ w → d ∣ total R ws j
  const : ¬ d ∣ total R ws 0
theorem dvd_S {n : Nat} {d : Int} {f : Nat → Int} (h : ∀ i, i < n → d ∣ f i) : d ∣ S n f := by
  induction n with
  | zero => exact Int.dvd_zero _
  | succ n ih => exact Int.dvd_add (ih fun i hi => h i (by omega)) (h n (by omega))
theorem rest_ok {w : Nat} {R : List (List Int)} {ws : List Int} {D : Int} (hl : ws.length = R.length) (hD : 0 < D) (h1 : ∀ j, 1 ≤ j → j ≤ w → D ∣ total R ws j) (h0 : ¬ D ∣ total R ws 0) :
    RestOk w R (restM ws D).1 (restM ws D).2 ∧ (restM ws D).2 ≤ D := by
  obtain ⟨s1, s2, s3⟩ := shareM_dvd ws D hD
  unfold restM
  generalize shareM ws D = s at *
  obtain ⟨d, hd⟩ := s2
  have ed : D.fdiv s = d := by rw [hd, Int.mul_comm, Int.mul_fdiv_cancel _ (by omega)]
  show RestOk w R (ws.map fun x => (x.fdiv s).fmod (D.fdiv s)) (D.fdiv s) ∧ D.fdiv s ≤ D
  rw [ed]
  have hd0 : 0 < d := by
    rcases Int.lt_or_le 0 d with z | z
    · exact z
    · have : s * d ≤ 0 := Int.mul_nonpos_of_nonneg_of_nonpos (by omega) z
      omega
  have key : ∀ j, D ∣ total R ws j ↔ d ∣ total R (ws.map fun x => (x.fdiv s).fmod d) j := fun j => by
    have e1 : total R ws j = s * S R.length fun k => (g ws k).fdiv s * ent R k j := by
      unfold total
      rw [← S_mul]
      refine S_congr fun k hk => ?_
      obtain ⟨t, ht⟩ := s3 (g ws k) (g_mem (by omega))
      rw [ht, Int.mul_comm s t, Int.mul_fdiv_cancel _ (by omega)]
      grind
    have e2 : d ∣ total R (ws.map fun x => (x.fdiv s).fmod d) j - S R.length fun k => (g ws k).fdiv s * ent R k j := by
      unfold total
      have : S R.length (fun k => g (ws.map fun x => (x.fdiv s).fmod d) k * ent R k j) - S R.length (fun k => (g ws k).fdiv s * ent R k j) = S R.length fun k => g (ws.map fun x => (x.fdiv s).fmod d) k * ent R k j + (-1) * ((g ws k).fdiv s * ent R k j) := by
        rw [S_add, S_mul]; omega
      rw [this]
      refine dvd_S fun k hk => ?_
      rw [g_map (by simp), Int.fmod_def]
      refine ⟨-(((g ws k).fdiv s).fdiv d) * ent R k j, ?_⟩
      grind
    rw [e1, hd]
    constructor
    · intro z
      have z2 : d ∣ S R.length fun k => (g ws k).fdiv s * ent R k j := Int.dvd_of_mul_dvd_mul_left (by omega) z
      have := Int.dvd_add e2 z2
      rwa [Int.sub_add_cancel] at this
    · intro z
      have z2 := Int.dvd_sub z e2
      rw [Int.sub_sub_self] at z2
      exact Int.mul_dvd_mul_left _ z2
  have hc : ¬ d ∣ total R (ws.map fun x => (x.fdiv s).fmod d) 0 := fun z => h0 ((key 0).mpr z)
  refine ⟨⟨by rw [List.length_map]; exact hl, ?_, fun x hx => ?_, fun j a b => (key j).mp (h1 j a b), hc⟩, ?_⟩
  · rcases Int.lt_or_le d 2 with z | z
    · have : d = 1 := by omega
      rw [this] at hc
      exact absurd (Int.one_dvd _) hc
    · exact z
  · obtain ⟨y, _, rfl⟩ := List.mem_map.mp hx
    rw [Int.fmod_eq_emod_of_nonneg _ (by omega)]
    exact ⟨Int.emod_nonneg _ (by omega), Int.emod_lt_of_pos _ hd0⟩
  · rw [hd]
    have : 1 * d ≤ s * d := Int.mul_le_mul_of_nonneg_right (by omega) (by omega)
    omega

/-! the mirror of settled -/
structure SS where
  cols : List (List Int)
  inv : List (List Int)
  free : List Nat
  pins : List Pin
inductive Res where
  | base (point : List Int) (moves reads : List (List Int))
  | rest (ws : List Int) (d : Int)
def prods (cols : List (List Int)) (coefs : List Int) (pins : List Pin) : List (Nat × Int) := pins.map fun p => (p.at_, dot coefs (row cols p.at_))
def leftOf (c : Int) (pr : List (Nat × Int)) (pins : List Pin) : Int := c + (pins.map fun p => lk pr p.at_ * p.value).sum
def fuelOf (cols : List (List Int)) (coefs : List Int) (free : List Nat) : Nat := (free.map fun a => (dot coefs (row cols a)).natAbs).sum + 1
def turnM (s : SS) (coefs : List Int) : List (List Int) × List (List Int) × Option Nat := turnF (fuelOf s.cols coefs s.free) s.cols s.inv s.free coefs
def pinOf (a k : Nat) (whole : Int) (pr : List (Nat × Int)) (left : Int) : Pin := ⟨a, k, whole, pr, (-left).fdiv whole⟩
def stepS (many k : Nat) (r : List Int) (s : SS) : SS ⊕ Res :=
  let t := turnM s r.tail
  let pr := prods t.1 r.tail s.pins
  let left := leftOf (g r 0) pr s.pins
  match t.2.2 with
  | none => if left = 0 then .inl ⟨t.1, t.2.1, s.free, s.pins⟩ else
      let q := weighedM many s.pins pr k
      let z := restM q.1 (absI (q.2.1 * left) + 1)
      .inr (.rest z.1 z.2)
  | some a =>
    let whole := dot r.tail (row t.1 a)
    if left.fmod whole = 0 then .inl ⟨t.1, t.2.1, s.free.erase a, s.pins ++ [pinOf a k whole pr left]⟩ else
      let q := weighedM many s.pins pr k
      let z := restM q.1 (q.2.1 * absI whole)
      .inr (.rest z.1 z.2)
def runS (many : Nat) : Nat → List (List Int) → SS → SS ⊕ Res
  | _, [], s => .inl s
  | k, r :: rs, s => match stepS many k r s with
    | .inl s' => runS many (k + 1) rs s'
    | .inr z => .inr z
def pointOf (w : Nat) (cols : List (List Int)) (pins : List Pin) : List Int := pins.foldl (fun pt p => ax p.value pt (row cols p.at_)) (List.replicate w 0)
def endS (w : Nat) (s : SS) : Res := .base (pointOf w s.cols s.pins) (s.free.map (row s.cols)) (s.free.map (row s.inv))
def unit (w : Nat) : List (List Int) := (List.range w).map fun p => (List.range w).map fun a => if a = p then 1 else 0
def startS (w : Nat) : SS := ⟨unit w, unit w, List.range w, []⟩
def settledM (R : List (List Int)) (w : Nat) : Res := match runS R.length 0 R (startS w) with
  | .inl s => endS w s
  | .inr z => z

theorem unit_row {w a : Nat} (h : a < w) : row (unit w) a = (List.range w).map fun b => if b = a then 1 else 0 := by
  unfold row unit
  rw [List.getD_eq_getElem?_getD, List.getElem?_map, List.getElem?_range h]
  rfl
theorem unit_ent {w a i : Nat} (h : a < w) : ent (unit w) a i = if i = a then 1 else 0 := by
  unfold ent
  rw [unit_row h]
  by_cases hi : i < w
  · unfold g
    rw [List.getD_eq_getElem?_getD, List.getElem?_map, List.getElem?_range hi]
    rfl
  · rw [g_out (by simp; omega), if_neg (by omega)]
theorem unit_wf (w : Nat) : Wf w (unit w) := ⟨by unfold unit; simp, fun v hv => by
  unfold unit at hv
  obtain ⟨p, _, rfl⟩ := List.mem_map.mp hv
  simp⟩
theorem unit_inverse (w : Nat) : Inverse w (unit w) (unit w) := by
  refine ⟨unit_wf w, unit_wf w, fun a b ha hb => ?_, fun x i hi => ?_⟩
  · rw [dot_w (w := w) (.inl ((unit_wf w).row ha)), S_one ha fun i _ hn => ?_]
    · show ent (unit w) a a * ent (unit w) b a = _
      rw [unit_ent ha, unit_ent hb, if_pos rfl]; simp
    · show ent (unit w) a i * ent (unit w) b i = 0
      rw [unit_ent ha, if_neg hn, Int.zero_mul]
  · rw [S_one hi fun a ha hn => by rw [unit_ent ha, if_neg (Ne.symm hn), Int.mul_zero]]
    rw [unit_ent hi, if_pos rfl, S_one hi fun j _ hn => by rw [unit_ent hi, if_neg hn, Int.zero_mul]]
    rw [unit_ent hi, if_pos rfl]; simp
theorem fuel_ok (cols : List (List Int)) (coefs : List Int) (free : List Nat) : Fuel (fuelOf cols coefs free) cols coefs free := by
  have mem : ∀ (l : List Nat) (a : Nat), a ∈ l → (dot coefs (row cols a)).natAbs ≤ (l.map fun a => (dot coefs (row cols a)).natAbs).sum := by
    intro l
    induction l with
    | nil => intro a h; cases h
    | cons b l ih =>
      intro a h
      rw [List.map_cons, List.sum_cons]
      rcases List.mem_cons.mp h with z | z
      · rw [z]; omega
      · have := ih a z; omega
  refine ⟨by unfold fuelOf; omega, fun h => ?_⟩
  match e : nz cols coefs free, h with
  | a :: l, _ =>
    have ha : a ∈ nz cols coefs free := by rw [e]; simp
    refine ⟨a, by simp, ?_⟩
    have := mem free a (mem_nz.mp ha).1
    unfold fuelOf
    omega
end CfM

namespace CfM
/-! sums over lists -/
theorem perm_sum {α : Type} {f : α → Int} {l m : List α} (h : l.Perm m) : (l.map f).sum = (m.map f).sum := by
  induction h with
  | nil => rfl
  | cons x _ ih => rw [List.map_cons, List.map_cons, List.sum_cons, List.sum_cons, ih]
  | swap x y l => rw [List.map_cons, List.map_cons, List.map_cons, List.map_cons, List.sum_cons, List.sum_cons, List.sum_cons, List.sum_cons]; omega
  | trans _ _ a b => rw [a, b]
theorem S_range (w : Nat) (f : Nat → Int) : S w f = ((List.range w).map f).sum := by
  induction w with
  | zero => rfl
  | succ w ih =>
    rw [List.range_succ, List.map_append, List.sum_append, ← ih]
    show S w f + f w = S w f + (f w + 0)
    omega
theorem lsum_zero {α : Type} {f : α → Int} : ∀ {l : List α}, (∀ x ∈ l, f x = 0) → (l.map f).sum = 0
  | [], _ => rfl
  | x :: l, h => by
    rw [List.map_cons, List.sum_cons, h x List.mem_cons_self, lsum_zero fun y hy => h y (List.mem_cons_of_mem _ hy)]
    rfl
theorem lsum_congr {α : Type} {f h : α → Int} {l : List α} (e : ∀ x ∈ l, f x = h x) : (l.map f).sum = (l.map h).sum := by rw [List.map_congr_left e]
theorem lsum_one {f : Nat → Int} {a : Nat} : ∀ {l : List Nat}, l.Nodup → a ∈ l → (∀ x ∈ l, x ≠ a → f x = 0) → (l.map f).sum = f a
  | x :: l, hn, hm, h => by
    rw [List.nodup_cons] at hn
    rw [List.map_cons, List.sum_cons]
    rcases List.mem_cons.mp hm with z | z
    · subst z
      rw [lsum_zero fun y hy => h y (List.mem_cons_of_mem _ hy) fun q => hn.1 (q ▸ hy)]
      omega
    · rw [h x List.mem_cons_self fun q => hn.1 (q ▸ z), lsum_one hn.2 z fun y hy => h y (List.mem_cons_of_mem _ hy)]
      omega
theorem S_lsum {α : Type} {n : Nat} {f : Nat → α → Int} : ∀ (l : List α), S n (fun i => (l.map (f i)).sum) = (l.map fun x => S n fun i => f i x).sum
  | [] => S_zero n
  | x :: l => by
    rw [List.map_cons, List.sum_cons, ← S_lsum l, ← S_add]
    rfl
theorem lsum_mul {α : Type} {c : Int} {f : α → Int} : ∀ (l : List α), (l.map fun x => c * f x).sum = c * (l.map f).sum
  | [] => by show (0 : Int) = c * 0; simp
  | x :: l => by rw [List.map_cons, List.sum_cons, List.map_cons, List.sum_cons, lsum_mul l, Int.mul_add]

theorem PinsOk.cols {A : Nat → List Int} {cols cols' : List (List Int)} {pins : List Pin} (h : PinsOk A cols pins) : (∀ p ∈ pins, row cols' p.at_ = row cols p.at_) → PinsOk A cols' pins := by
  induction h with
  | nil => intro _; exact .nil
  | @snoc pins h p hw h0 ho hl hp ha ih =>
    intro e
    have ep := e p (by simp)
    have ex : ∀ x ∈ pins, row cols' x.at_ = row cols x.at_ := fun x hx => e x (List.mem_append_left _ hx)
    refine .snoc (ih ex) p (by rw [ep]; exact hw) h0 (ho.trans (List.map_congr_left fun x hx => by rw [ex x hx])) (fun x hx => by rw [ep]; exact hl x hx) hp ha
theorem PinsOk.whole {A : Nat → List Int} {cols : List (List Int)} {pins : List Pin} (h : PinsOk A cols pins) : ∀ p ∈ pins, p.whole = dot (A p.place) (row cols p.at_) ∧ p.whole ≠ 0 := by
  induction h with
  | nil => intro p h; cases h
  | @snoc pins h p hw h0 ho hl hp ha ih =>
    intro x hx
    rcases List.mem_append.mp hx with z | z
    · exact ih x z
    · rw [List.mem_singleton] at z
      rw [z]
      exact ⟨hw, h0⟩
theorem PinsOk.others {A : Nat → List Int} {cols : List (List Int)} {pins : List Pin} (h : PinsOk A cols pins) : ∀ p ∈ pins, (p.others.map (·.1)).Nodup ∧ ∀ x ∈ p.others, ∃ y ∈ pins, x = (y.at_, dot (A p.place) (row cols y.at_)) := by
  induction h with
  | nil => intro p h; cases h
  | @snoc pins h p hw h0 ho hl hp ha ih =>
    intro x hx
    rcases List.mem_append.mp hx with z | z
    · obtain ⟨a, b⟩ := ih x z
      refine ⟨a, fun y hy => ?_⟩
      obtain ⟨q, hq, e⟩ := b y hy
      exact ⟨q, List.mem_append_left _ hq, e⟩
    · rw [List.mem_singleton] at z
      rw [z, ho, List.map_map]
      refine ⟨h.nodup, fun y hy => ?_⟩
      obtain ⟨q, hq, e⟩ := List.mem_map.mp hy
      exact ⟨q, List.mem_append_left _ hq, e.symm⟩

/-- the identity from the other side -/
theorem Inverse.dual {w : Nat} {cols inv : List (List Int)} (I : Inverse w cols inv) (T : Nat → Int) (j : Nat) (hj : j < w) : S w (fun a => (S w fun i => T i * ent cols a i) * ent inv a j) = T j := by
  have e : ∀ i, i < w → S w (fun a => ent inv a j * ent cols a i) = if i = j then 1 else 0 := fun i hi => by
    have h := I.all (fun k => if k = j then 1 else 0) i hi
    rw [← h]
    refine S_congr fun a _ => ?_
    rw [S_one hj fun k _ hk => by rw [if_neg hk, Int.mul_zero]]
    rw [if_pos rfl, Int.mul_one]
  have e1 : S w (fun a => (S w fun i => T i * ent cols a i) * ent inv a j) = S w fun a => S w fun i => T i * (ent inv a j * ent cols a i) := S_congr fun a _ => by
    rw [Int.mul_comm, ← S_mul]
    exact S_congr fun i _ => by grind
  rw [e1, S_swap, S_one hj fun i hi hn => by rw [S_mul, e i hi, if_neg hn, Int.mul_zero]]
  rw [S_mul, e j hj, if_pos rfl, Int.mul_one]

section
variable {w : Nat} {R : List (List Int)}
abbrev cf (R : List (List Int)) (i : Nat) : List Int := (row R i).tail
theorem tail_g (v : List Int) (i : Nat) : g v.tail i = g v (i + 1) := by
  cases v with
  | nil => rfl
  | cons x v => rfl
structure Rows (w : Nat) (R : List (List Int)) : Prop where
  each : ∀ r ∈ R, r.length = w + 1
theorem Rows.cf (h : Rows w R) {i : Nat} (hi : i < R.length) : (cf R i).length = w := by
  have e : R[i]? = some (row R i) := by
    unfold row
    rw [List.getD_eq_getElem?_getD, List.getElem?_eq_getElem hi]
    rfl
  have := h.each _ (List.mem_of_getElem? e)
  rw [List.length_tail, this]
  rfl
theorem Rows.dot (h : Rows w R) {i : Nat} (hi : i < R.length) (u : List Int) : dot (CfM.cf R i) u = S w fun j => ent R i (j + 1) * g u j := by
  rw [dot_w (w := w) (.inl (h.cf hi))]
  exact S_congr fun j _ => by rw [tail_g]; rfl
theorem Rows.comb (h : Rows w R) (ws u : List Int) : comb (CfM.cf R) R.length ws u = S w fun j => total R ws (j + 1) * g u j := by
  unfold CfM.comb total
  have e : S R.length (fun k => g ws k * CfM.dot (CfM.cf R k) u) = S R.length fun k => S w fun j => g ws k * ent R k (j + 1) * g u j := S_congr fun k hk => by
    rw [h.dot hk, ← S_mul]
    exact S_congr fun j _ => by grind
  rw [e, S_swap]
  refine S_congr fun j _ => ?_
  rw [Int.mul_comm, ← S_mul]
  exact S_congr fun k _ => by grind

structure Good (w : Nat) (R : List (List Int)) (k : Nat) (s : SS) : Prop where
  inverse : Inverse w s.cols s.inv
  perm : (s.pins.map (·.at_) ++ s.free).Perm (List.range w)
  zero : ∀ i, i < k → ∀ a ∈ s.free, dot (cf R i) (row s.cols a) = 0
  solved : ∀ i, i < k → ent R i 0 + (s.pins.map fun p => p.value * dot (cf R i) (row s.cols p.at_)).sum = 0
  pinsOk : PinsOk (cf R) s.cols s.pins
  place : ∀ p ∈ s.pins, p.place < k
variable {k : Nat} {s : SS}
theorem Good.nodup (G : Good w R k s) : (s.pins.map (·.at_) ++ s.free).Nodup := G.perm.nodup_iff.mpr List.nodup_range
theorem Good.freeNd (G : Good w R k s) : s.free.Nodup := (List.nodup_append.mp G.nodup).2.1
theorem Good.freeLt (G : Good w R k s) : ∀ a ∈ s.free, a < w := fun a ha => List.mem_range.mp (G.perm.mem_iff.mp (List.mem_append_right _ ha))
theorem Good.pinLt (G : Good w R k s) : ∀ p ∈ s.pins, p.at_ < w := fun p hp => List.mem_range.mp (G.perm.mem_iff.mp (List.mem_append_left _ (List.mem_map.mpr ⟨p, hp, rfl⟩)))
theorem Good.apart (G : Good w R k s) : ∀ p ∈ s.pins, p.at_ ∉ s.free := fun p hp hf => (List.nodup_append.mp G.nodup).2.2 p.at_ (List.mem_map.mpr ⟨p, hp, rfl⟩) p.at_ hf rfl
theorem Good.sum (G : Good w R k s) (f : Nat → Int) : S w f = (s.pins.map fun p => f p.at_).sum + (s.free.map f).sum := by
  rw [S_range, ← perm_sum G.perm, List.map_append, List.sum_append, List.map_map]
  rfl
theorem Good.len (G : Good w R k s) : s.pins.length + s.free.length = w := by
  have := G.perm.length_eq
  rw [List.length_append, List.length_map, List.length_range] at this
  exact this
/-- behind turned, the pins the same -/
theorem Good.turned (G : Good w R k s) (coefs : List Int) : Turned w s.cols s.inv s.free coefs (turnM s coefs).1 (turnM s coefs).2.1 (turnM s coefs).2.2 :=
  turned_spec G.freeLt G.freeNd _ _ _ G.inverse (fuel_ok _ _ _)
theorem Good.turn (G : Good w R k s) (coefs : List Int) : Good w R k ⟨(turnM s coefs).1, (turnM s coefs).2.1, s.free, s.pins⟩ := by
  have T := G.turned coefs
  have e : ∀ p ∈ s.pins, row (turnM s coefs).1 p.at_ = row s.cols p.at_ := fun p hp => (T.keep p.at_ (G.apart p hp)).1
  refine ⟨T.inverse, G.perm, fun i hi => T.lin _ (G.zero i hi), fun i hi => ?_, G.pinsOk.cols e, G.place⟩
  rw [← G.solved i hi]
  congr 1
  exact lsum_congr fun p hp => by rw [e p hp]
theorem left_eq (G : Good w R k s) (c : Int) (coefs : List Int) : leftOf c (prods s.cols coefs s.pins) s.pins = c + (s.pins.map fun p => p.value * dot coefs (row s.cols p.at_)).sum := by
  unfold leftOf prods
  congr 1
  refine lsum_congr fun p hp => ?_
  rw [lk_mapf (fun y : Pin => y.at_) (fun y => dot coefs (row s.cols y.at_)) G.pinsOk.nodup hp, Int.mul_comm]
theorem Good.weigh (G : Good w R k s) (hR : Rows w R) (hk : k < R.length) :
    WInv (cf R) R.length s.cols k [] s.pins (weighedM R.length s.pins (prods s.cols (cf R k) s.pins) k) := by
  have z := weighed_inv (number := k) G.pinsOk [] (wstart R.length (prods s.cols (cf R k) s.pins) k) (many := R.length) (fun p hp => ⟨Nat.lt_trans (G.place p hp) hk, Nat.ne_of_lt (G.place p hp)⟩) (fun _ _ _ h => nomatch h) ?_
  · rw [List.append_nil] at z
    exact z
  · have lr : k < (List.replicate R.length (0 : Int)).length := by rw [List.length_replicate]; exact hk
    have gr : ∀ j, g ((List.replicate R.length (0 : Int)).set k 1) j = if j = k then 1 else 0 := fun j => by
      rw [g_set lr]
      by_cases h : j = k
      · rw [if_pos h, if_pos h]
      · rw [if_neg h, if_neg h]
        by_cases hj : j < R.length
        · have := g_mem (v := List.replicate R.length (0 : Int)) (i := j) (by simpa using hj)
          exact (List.mem_replicate.mp this).2
        · exact g_out (by simp; omega)
    refine ⟨by show ((List.replicate R.length (0 : Int)).set k 1).length = _; simp, fun x hx => ?_, fun x hx => ?_, (fun y h => nomatch h), ?_, Int.le_refl 1, fun j hj _ => ?_⟩
    · show x.at_ ∈ (prods s.cols (cf R k) s.pins).map (·.1)
      unfold prods
      rw [List.map_map]
      exact List.mem_map.mpr ⟨x, hx, rfl⟩
    · show lk (prods s.cols (cf R k) s.pins) x.at_ = comb (cf R) R.length ((List.replicate R.length (0 : Int)).set k 1) (row s.cols x.at_)
      unfold prods comb
      rw [lk_mapf (fun y : Pin => y.at_) (fun y => dot (cf R k) (row s.cols y.at_)) G.pinsOk.nodup hx, S_one hk fun i _ hn => by rw [gr, if_neg hn, Int.zero_mul]]
      rw [gr, if_pos rfl, Int.one_mul]
    · show g ((List.replicate R.length (0 : Int)).set k 1) k = 1
      rw [gr, if_pos rfl]
    · show g ((List.replicate R.length (0 : Int)).set k 1) j = 0
      rw [gr, if_neg hj]
/-- the constant of the rows added -/
theorem Good.const (G : Good w R k s) (hR : Rows w R) (hk : k < R.length) (q : WS) (W : WInv (cf R) R.length s.cols k [] s.pins q) :
    total R q.1 0 = q.2.1 * leftOf (g (row R k) 0) (prods s.cols (cf R k) s.pins) s.pins := by
  rw [left_eq G]
  have hz : ∀ i, k < i → g q.1 i = 0 := fun i hi => W.zero i (by omega) fun y hy => by have := G.place y hy; omega
  have e : total R q.1 0 = S R.length fun i => (-1) * (g q.1 i * (s.pins.map fun p => p.value * dot (cf R i) (row s.cols p.at_)).sum) + if i = k then q.2.1 * (g (row R k) 0 + (s.pins.map fun p => p.value * dot (cf R k) (row s.cols p.at_)).sum) else 0 := by
    unfold total
    refine S_congr fun i hi => ?_
    rcases Nat.lt_trichotomy i k with h | h | h
    · rw [if_neg (by omega)]
      have := G.solved i h
      rw [show ent R i 0 = -(s.pins.map fun p => p.value * dot (cf R i) (row s.cols p.at_)).sum by omega]
      grind
    · subst h
      rw [if_pos rfl, W.num]
      show q.2.1 * g (row R i) 0 = _
      grind
    · rw [if_neg (by omega), hz i h]
      simp
  rw [e, S_add, S_mul, S_one hk (fun i _ hn => if_neg hn), if_pos rfl]
  have e2 : S R.length (fun i => g q.1 i * (s.pins.map fun p => p.value * dot (cf R i) (row s.cols p.at_)).sum) = 0 := by
    have e3 : S R.length (fun i => g q.1 i * (s.pins.map fun p => p.value * dot (cf R i) (row s.cols p.at_)).sum) = S R.length fun i => (s.pins.map fun p => p.value * (g q.1 i * dot (cf R i) (row s.cols p.at_))).sum := S_congr fun i _ => by
      rw [← lsum_mul]
      exact lsum_congr fun p _ => by grind
    rw [e3, S_lsum]
    refine lsum_zero fun p hp => ?_
    rw [S_mul]
    have := W.done p hp
    unfold comb at this
    rw [this, Int.mul_zero]
  rw [e2]
  omega
/-- the coefs of the rows added -/
theorem Good.coefs (G : Good w R k s) (hR : Rows w R) (hk : k < R.length) (q : WS) (W : WInv (cf R) R.length s.cols k [] s.pins q) (D : Int) (hD : ∀ a ∈ s.free, D ∣ q.2.1 * dot (cf R k) (row s.cols a)) :
    ∀ j, 1 ≤ j → j ≤ w → D ∣ total R q.1 j := fun j h1 h2 => by
  have hz : ∀ i, k < i → g q.1 i = 0 := fun i hi => W.zero i (by omega) fun y hy => by have := G.place y hy; omega
  have e := G.inverse.dual (fun j => total R q.1 (j + 1)) (j - 1) (by omega)
  rw [show j - 1 + 1 = j by omega] at e
  rw [← e]
  have cb : ∀ a, S w (fun i => total R q.1 (i + 1) * ent s.cols a i) = comb (cf R) R.length q.1 (row s.cols a) := fun a => (hR.comb q.1 (row s.cols a)).symm
  rw [G.sum]
  have z1 : (s.pins.map fun p => S w (fun i => total R q.1 (i + 1) * ent s.cols p.at_ i) * ent s.inv p.at_ (j - 1)).sum = 0 := lsum_zero fun p hp => by
    rw [cb, W.done p hp, Int.zero_mul]
  rw [z1, Int.zero_add]
  have dl : ∀ l : List Nat, (∀ a ∈ l, a ∈ s.free) → D ∣ (l.map fun a => S w (fun i => total R q.1 (i + 1) * ent s.cols a i) * ent s.inv a (j - 1)).sum := by
    intro l
    induction l with
    | nil => intro _; exact Int.dvd_zero _
    | cons a l ih =>
      intro h
      rw [List.map_cons, List.sum_cons]
      refine Int.dvd_add ?_ (ih fun b hb => h b (List.mem_cons_of_mem _ hb))
      rw [cb]
      refine Int.dvd_trans ?_ (Int.dvd_mul_right _ _)
      have ha := h a List.mem_cons_self
      have e2 : comb (cf R) R.length q.1 (row s.cols a) = q.2.1 * dot (cf R k) (row s.cols a) := by
        unfold comb
        rw [S_one hk fun i hi hn => ?_]
        · rw [W.num]
        · rcases Nat.lt_or_gt_of_ne hn with z | z
          · rw [G.zero i z a ha, Int.mul_zero]
          · rw [hz i z, Int.zero_mul]
      rw [e2]
      exact hD a ha
  exact dl s.free fun a ha => ha
end
end CfM

namespace CfM
section
variable {w : Nat} {R : List (List Int)} {k : Nat} {s : SS}
theorem start_good (w : Nat) (R : List (List Int)) : Good w R 0 (startS w) :=
  ⟨unit_inverse w, by show ([] ++ List.range w).Perm _; exact List.Perm.refl _, fun i h => (by omega), fun i h => (by omega), .nil, fun p h => nomatch h⟩
theorem sums_zero (G : Good w R k s) (coefs : List Int) (a : Nat) (ha : a ∈ s.free) : a ∉ s.pins.map (·.at_) := fun h => by
  obtain ⟨p, hp, e⟩ := List.mem_map.mp h
  exact G.apart p hp (e ▸ ha)
theorem fmod_zero_mul {a b : Int} (h : a.fmod b = 0) (hb : b ≠ 0) : a + (-a).fdiv b * b = 0 := by
  have e := (fmod_facts (a := a) hb).1
  rw [h, Int.add_zero] at e
  have e2 : -a = (-(a.fdiv b)) * b := by rw [Int.neg_mul, ← e]
  rw [e2, Int.mul_fdiv_cancel _ hb, Int.neg_mul, ← e]
  omega
theorem step_good (hR : Rows w R) (hk : k < R.length) (G : Good w R k s) :
    (∃ s', stepS R.length k (row R k) s = .inl s' ∧ Good w R (k + 1) s') ∨ (∃ ws d, stepS R.length k (row R k) s = .inr (.rest ws d) ∧ RestOk w R ws d) := by
  have T := G.turned (cf R k)
  have G1 := G.turn (cf R k)
  have W := G1.weigh hR hk
  have hc := G1.const hR hk _ W
  have hco := G1.coefs hR hk _ W
  have le := left_eq G1 (g (row R k) 0) (cf R k)
  have hlen : (weighedM R.length s.pins (prods (turnM s (cf R k)).1 (cf R k) s.pins) k).1.length = R.length := W.len
  have hpos := W.pos
  unfold stepS
  dsimp only at *
  generalize turnM s (cf R k) = t at *
  obtain ⟨c', v', r⟩ := t
  dsimp only at *
  generalize leftOf (g (row R k) 0) (prods c' (cf R k) s.pins) s.pins = left at *
  generalize weighedM R.length s.pins (prods c' (cf R k) s.pins) k = q at *
  cases r with
  | none =>
    obtain ⟨e1, e2, e3⟩ := T.non rfl
    by_cases h : left = 0
    · refine .inl ⟨_, if_pos h, ⟨G1.inverse, G1.perm, fun i hi a ha => ?_, fun i hi => ?_, G1.pinsOk, fun p hp => Nat.lt_succ_of_lt (G1.place p hp)⟩⟩
      · rcases Nat.lt_or_ge i k with z | z
        · exact G1.zero i z a ha
        · rw [show i = k by omega]
          rw [e1]
          exact e3 a ha
      · rcases Nat.lt_or_ge i k with z | z
        · exact G1.solved i z
        · rw [show i = k by omega]
          show g (row R k) 0 + _ = 0
          rw [← le, h]
    · refine .inr ⟨_, _, if_neg h, ?_⟩
      have hne : q.2.1 * left ≠ 0 := Int.mul_ne_zero (by omega) h
      refine (rest_ok hlen (by rw [absI_eq]; omega) (hco _ fun a ha => ?_) ?_).1
      · rw [e1, e3 a ha, Int.mul_zero]
        exact Int.dvd_zero _
      · rw [hc]
        intro hd
        have := Nat.le_of_dvd (by omega) (Int.natAbs_dvd_natAbs.mpr hd)
        rw [absI_eq] at this
        omega
  | some a =>
    obtain ⟨ha, h0, hz⟩ := T.som a rfl
    dsimp only
    by_cases h : left.fmod (dot (cf R k) (row c' a)) = 0
    · refine .inl ⟨_, if_pos h, ⟨G1.inverse, ?_, fun i hi b hb => ?_, fun i hi => ?_, .snoc G1.pinsOk _ rfl h0 ?_ (fun x hx => ?_) (fun x hx => ?_) (fun x hx => ?_), fun p hp => ?_⟩⟩
      · show List.Perm (List.map (fun p : Pin => p.at_) (s.pins ++ [pinOf a k _ _ _]) ++ s.free.erase a) (List.range w)
        rw [List.map_append, List.append_assoc]
        exact (List.Perm.append_left _ (List.perm_cons_erase ha).symm).trans G1.perm
      · have hb2 : b ∈ s.free := List.mem_of_mem_erase hb
        have hne : b ≠ a := fun z => (List.Nodup.not_mem_erase G1.freeNd) (z ▸ hb)
        rcases Nat.lt_or_ge i k with z | z
        · exact G1.zero i z b hb2
        · rw [show i = k by omega]
          exact hz b hb2 hne
      · show ent R i 0 + (List.map (fun p : Pin => p.value * dot (cf R i) (row c' p.at_)) (s.pins ++ [pinOf a k _ _ _])).sum = 0
        rw [List.map_append, List.sum_append]
        rcases Nat.lt_or_ge i k with z | z
        · have e1 := G1.solved i z
          have e2 := G1.zero i z a ha
          show _ + (_ + ((-left).fdiv _ * dot (cf R i) (row c' a) + 0)) = 0
          rw [e2, Int.mul_zero]
          dsimp only at e1
          omega
        · rw [show i = k by omega]
          show g (row R k) 0 + (_ + ((-left).fdiv _ * dot (cf R k) (row c' a) + 0)) = 0
          have : left + (-left).fdiv (dot (row R k).tail (row c' a)) * dot (cf R k) (row c' a) = 0 := fmod_zero_mul h h0
          omega
      · rfl
      · exact G1.zero x.place (G1.place x hx) a ha
      · exact Nat.ne_of_lt (G1.place x hx)
      · exact fun z => G1.apart x hx (z ▸ ha)
      · rcases List.mem_append.mp hp with z | z
        · exact Nat.lt_succ_of_lt (G1.place p z)
        · rw [List.mem_singleton] at z
          rw [z]
          exact Nat.lt_succ_self k
    · refine .inr ⟨_, _, if_neg h, ?_⟩
      have hw : 0 < absI (dot (cf R k) (row c' a)) := by rw [absI_eq]; omega
      refine (rest_ok hlen (Int.mul_pos (by omega) hw) (hco _ fun b hb => ?_) ?_).1
      · by_cases e : b = a
        · rw [e]
          refine Int.mul_dvd_mul_left _ ?_
          rw [absI_eq]
          exact Int.natAbs_dvd.mpr (Int.dvd_refl _)
        · rw [hz b hb e, Int.mul_zero]
          exact Int.dvd_zero _
      · rw [hc]
        intro hd
        have h1 : absI (dot (cf R k) (row c' a)) ∣ left := Int.dvd_of_mul_dvd_mul_left (by omega) hd
        rw [absI_eq] at h1
        obtain ⟨t, ht⟩ := Int.natAbs_dvd.mp h1
        apply h
        rw [ht, Int.mul_fmod_right]
/-- what a base tells by its own numbers -/
structure BaseOk (w : Nat) (R : List (List Int)) (point : List Int) (moves reads : List (List Int)) : Prop where
  pl : point.length = w
  ml : ∀ m ∈ moves, m.length = w
  rl : ∀ r ∈ reads, r.length = w
  same : reads.length = moves.length
  at_ : ∀ r ∈ R, g r 0 + dot r.tail point = 0
  none : ∀ r ∈ R, ∀ m ∈ moves, dot r.tail m = 0
  one : ∀ i j, i < moves.length → j < moves.length → dot (row reads i) (row moves j) = if i = j then 1 else 0
theorem point_fold {w : Nat} {cols : List (List Int)} : ∀ (pins : List Pin) (pt : List Int), pt.length = w → (∀ p ∈ pins, (row cols p.at_).length = w) →
    (pins.foldl (fun pt p => ax p.value pt (row cols p.at_)) pt).length = w ∧ ∀ u, dot u (pins.foldl (fun pt p => ax p.value pt (row cols p.at_)) pt) = dot u pt + (pins.map fun p => p.value * dot u (row cols p.at_)).sum
  | [], pt, hl, _ => ⟨hl, fun u => by show dot u pt = dot u pt + 0; omega⟩
  | p :: pins, pt, hl, h => by
    have hp := h p List.mem_cons_self
    obtain ⟨a, b⟩ := point_fold pins (ax p.value pt (row cols p.at_)) (by rw [ax_len]; omega) fun x hx => h x (List.mem_cons_of_mem _ hx)
    refine ⟨a, fun u => ?_⟩
    rw [List.foldl_cons, b u, dot_ax (by omega), List.map_cons, List.sum_cons]
    omega
theorem dot_zeros (u : List Int) (w : Nat) : dot u (List.replicate w 0) = 0 := by
  rw [dot_w (w := w) (.inr (by simp))]
  refine S_zero' fun i hi => ?_
  have := g_mem (v := List.replicate w (0 : Int)) (i := i) (by simpa using hi)
  rw [(List.mem_replicate.mp this).2, Int.mul_zero]
theorem Good.point (G : Good w R k s) : (pointOf w s.cols s.pins).length = w ∧ ∀ u, dot u (pointOf w s.cols s.pins) = (s.pins.map fun p => p.value * dot u (row s.cols p.at_)).sum := by
  obtain ⟨a, b⟩ := point_fold (w := w) (cols := s.cols) s.pins (List.replicate w 0) (by simp) fun p hp => G.inverse.wc.row (G.pinLt p hp)
  refine ⟨a, fun u => ?_⟩
  unfold pointOf
  rw [b u, dot_zeros]
  omega
theorem row_map {m : List (List Int)} {l : List Nat} {i : Nat} (h : i < l.length) : row (l.map (row m)) i = row m l[i] := by
  show (l.map (row m)).getD i [] = row m l[i]
  rw [List.getD_eq_getElem?_getD, List.getElem?_map, List.getElem?_eq_getElem h]
  rfl
theorem row_at {R : List (List Int)} {r : List Int} (h : r ∈ R) : ∃ i, i < R.length ∧ r = row R i := by
  obtain ⟨i, hi, e⟩ := List.mem_iff_getElem.mp h
  refine ⟨i, hi, ?_⟩
  unfold row
  rw [List.getD_eq_getElem?_getD, List.getElem?_eq_getElem hi, ← e]
  rfl
theorem Good.base (G : Good w R R.length s) : BaseOk w R (pointOf w s.cols s.pins) (s.free.map (row s.cols)) (s.free.map (row s.inv)) := by
  obtain ⟨p1, p2⟩ := G.point
  refine ⟨p1, fun m hm => ?_, fun m hm => ?_, by simp, fun r hr => ?_, fun r hr m hm => ?_, fun i j hi hj => ?_⟩
  · obtain ⟨a, ha, rfl⟩ := List.mem_map.mp hm
    exact G.inverse.wc.row (G.freeLt a ha)
  · obtain ⟨a, ha, rfl⟩ := List.mem_map.mp hm
    exact G.inverse.wi.row (G.freeLt a ha)
  · obtain ⟨i, hi, rfl⟩ := row_at hr
    rw [p2]
    exact G.solved i hi
  · obtain ⟨i, hi, rfl⟩ := row_at hr
    obtain ⟨a, ha, rfl⟩ := List.mem_map.mp hm
    exact G.zero i hi a ha
  · rw [List.length_map] at hi hj
    rw [row_map hi, row_map hj, G.inverse.one _ _ (G.freeLt _ (List.getElem_mem hi)) (G.freeLt _ (List.getElem_mem hj))]
    by_cases e : i = j
    · subst e
      rw [if_pos rfl, if_pos rfl]
    · rw [if_neg e, if_neg fun z => e ((List.getElem_inj G.freeNd).mp z)]
theorem run_good (hR : Rows w R) : ∀ (rs : List (List Int)) (k : Nat) (s : SS), R.drop k = rs → k ≤ R.length → Good w R k s →
    (∃ s', runS R.length k rs s = .inl s' ∧ Good w R R.length s') ∨ (∃ ws d, runS R.length k rs s = .inr (.rest ws d) ∧ RestOk w R ws d)
  | [], k, s, e, hk, G => by
    have : k = R.length := by
      have := List.drop_eq_nil_iff.mp e
      omega
    subst this
    exact .inl ⟨s, rfl, G⟩
  | r :: rs, k, s, e, hk, G => by
    have hlt : k < R.length := by
      rcases Nat.lt_or_ge k R.length with z | z
      · exact z
      · rw [List.drop_of_length_le z] at e
        cases e
    have e2 := List.drop_eq_getElem_cons hlt
    rw [e] at e2
    injection e2 with e3 e4
    have er : r = row R k := by
      unfold row
      rw [List.getD_eq_getElem?_getD, List.getElem?_eq_getElem hlt, e3]
      rfl
    unfold runS
    rw [er]
    rcases step_good hR hlt G with ⟨s', e1, G'⟩ | ⟨ws, d, e1, h⟩
    · rw [e1]
      exact run_good hR rs (k + 1) s' e4.symm hlt G'
    · rw [e1]
      exact .inr ⟨ws, d, rfl, h⟩
/-- what settled tells, by its own numbers -/
theorem settled_ok (hR : Rows w R) : (∃ s, settledM R w = endS w s ∧ Good w R R.length s) ∨ (∃ ws d, settledM R w = .rest ws d ∧ RestOk w R ws d) := by
  unfold settledM
  rcases run_good hR R 0 (startS w) rfl (Nat.zero_le _) (start_good w R) with ⟨s, e, G⟩ | ⟨ws, d, e, h⟩
  · rw [e]
    exact .inl ⟨s, rfl, G⟩
  · rw [e]
    exact .inr ⟨ws, d, rfl, h⟩

/-! where there are values: a base in which they lie -/
structure Holds (R : List (List Int)) (w : Nat) (x : List Int) : Prop where
  len : x.length = w
  at_ : ∀ i, i < R.length → ent R i 0 + dot (cf R i) x = 0
theorem Good.expand (G : Good w R k s) (hx : ∀ p ∈ s.pins, ∀ x : List Int, True) {x u : List Int} (hl : x.length = w) (hu : u.length = w) :
    dot u x = (s.pins.map fun p => dot (row s.inv p.at_) x * dot u (row s.cols p.at_)).sum + (s.free.map fun a => dot (row s.inv a) x * dot u (row s.cols a)).sum := by
  have e := G.sum fun a => dot (row s.inv a) x * dot u (row s.cols a)
  rw [← e]
  have e1 : ∀ a, a < w → dot (row s.inv a) x * dot u (row s.cols a) = S w fun i => g u i * ((S w fun j => ent s.inv a j * g x j) * ent s.cols a i) := fun a ha => by
    rw [dot_w (w := w) (.inr hl), dot_w (w := w) (.inl hu), ← S_mul]
    refine S_congr fun i _ => ?_
    show (S w fun i => ent s.inv a i * g x i) * (g u i * ent s.cols a i) = _
    grind
  rw [S_congr e1, S_swap, dot_w (w := w) (.inl hu)]
  refine S_congr fun i hi => ?_
  rw [S_mul, G.inverse.all (g x) i hi]
theorem step_elder (hR : Rows w R) (hk : k < R.length) (G : Good w R k s) {x : List Int} (hx : Holds R w x) (hv : ∀ p ∈ s.pins, dot (row s.inv p.at_) x = p.value) :
    ∃ s', stepS R.length k (row R k) s = .inl s' ∧ Good w R (k + 1) s' ∧ ∀ p ∈ s'.pins, dot (row s'.inv p.at_) x = p.value := by
  have T := G.turned (cf R k)
  have G1 := G.turn (cf R k)
  have sg := step_good hR hk G
  have le := left_eq G1 (g (row R k) 0) (cf R k)
  have ex := G1.expand (fun _ _ _ => trivial) hx.len (hR.cf hk)
  have hv1 : ∀ p ∈ s.pins, dot (row (turnM s (cf R k)).2.1 p.at_) x = p.value := fun p hp => by
    rw [(T.keep p.at_ (G.apart p hp)).2]
    exact hv p hp
  have hx0 : g (row R k) 0 + dot (cf R k) x = 0 := hx.at_ k hk
  unfold stepS at sg ⊢
  dsimp only at *
  generalize turnM s (cf R k) = t at *
  obtain ⟨c', v', r⟩ := t
  dsimp only at *
  have e1 : (s.pins.map fun p => dot (row v' p.at_) x * dot (cf R k) (row c' p.at_)).sum = (s.pins.map fun p => p.value * dot (cf R k) (row c' p.at_)).sum := lsum_congr fun p hp => by rw [hv1 p hp]
  rw [e1] at ex
  generalize hleft : leftOf (g (row R k) 0) (prods c' (cf R k) s.pins) s.pins = left at *
  cases r with
  | none =>
    obtain ⟨ec, ev, ez⟩ := T.non rfl
    have e2 : (s.free.map fun a => dot (row v' a) x * dot (cf R k) (row c' a)).sum = 0 := lsum_zero fun a ha => by rw [ec, ez a ha, Int.mul_zero]
    have h : left = 0 := by omega
    dsimp only at sg ⊢
    rw [if_pos h] at sg ⊢
    rcases sg with ⟨s', es, Gs⟩ | ⟨ws, d, es, _⟩
    · cases es
      exact ⟨_, rfl, Gs, hv1⟩
    · cases es
  | some a =>
    obtain ⟨ha, h0, hz⟩ := T.som a rfl
    have e2 : (s.free.map fun b => dot (row v' b) x * dot (cf R k) (row c' b)).sum = dot (row v' a) x * dot (cf R k) (row c' a) := lsum_one G1.freeNd ha fun b hb hn => by rw [hz b hb hn, Int.mul_zero]
    have e3 : left = -(dot (row v' a) x * dot (cf R k) (row c' a)) := by omega
    have h : left.fmod (dot (cf R k) (row c' a)) = 0 := by
      rw [e3, ← Int.neg_mul, Int.mul_fmod_left]
    dsimp only at sg ⊢
    rw [if_pos h] at sg ⊢
    rcases sg with ⟨s', es, Gs⟩ | ⟨ws, d, es, _⟩
    · cases es
      refine ⟨_, rfl, Gs, fun p hp => ?_⟩
      rcases List.mem_append.mp hp with z | z
      · exact hv1 p z
      · rw [List.mem_singleton] at z
        rw [z]
        show dot (row v' a) x = (-left).fdiv (dot (cf R k) (row c' a))
        rw [e3, Int.neg_neg, Int.mul_fdiv_cancel _ h0]
    · cases es
theorem run_elder (hR : Rows w R) {x : List Int} (hx : Holds R w x) : ∀ (rs : List (List Int)) (k : Nat) (s : SS), R.drop k = rs → k ≤ R.length → Good w R k s → (∀ p ∈ s.pins, dot (row s.inv p.at_) x = p.value) →
    ∃ s', runS R.length k rs s = .inl s' ∧ Good w R R.length s' ∧ ∀ p ∈ s'.pins, dot (row s'.inv p.at_) x = p.value
  | [], k, s, e, hk, G, hv => by
    have : k = R.length := by
      have := List.drop_eq_nil_iff.mp e
      omega
    subst this
    exact ⟨s, rfl, G, hv⟩
  | r :: rs, k, s, e, hk, G, hv => by
    have hlt : k < R.length := by
      rcases Nat.lt_or_ge k R.length with z | z
      · exact z
      · rw [List.drop_of_length_le z] at e
        cases e
    have e2 := List.drop_eq_getElem_cons hlt
    rw [e] at e2
    injection e2 with e3 e4
    have er : r = row R k := by
      unfold row
      rw [List.getD_eq_getElem?_getD, List.getElem?_eq_getElem hlt, e3]
      rfl
    unfold runS
    rw [er]
    obtain ⟨s', e1, G', hv'⟩ := step_elder hR hlt G hx hv
    rw [e1]
    exact run_elder hR hx rs (k + 1) s' e4.symm hlt G' hv'
/-- the mirrors of times_of and spread -/
def timesM (point : List Int) (reads : List (List Int)) (x : List Int) : List Int := reads.map fun r => dot r (ax (-1) x point)
def spreadM (point : List Int) (moves : List (List Int)) (ts : List Int) : List Int := (moves.zip ts).foldl (fun v p => ax p.2 v p.1) point
theorem spread_fold {w : Nat} : ∀ (l : List (List Int × Int)) (v : List Int), v.length = w → (∀ p ∈ l, p.1.length = w) → (l.foldl (fun v p => ax p.2 v p.1) v).length = w ∧ ∀ i, g (l.foldl (fun v p => ax p.2 v p.1) v) i = g v i + (l.map fun p => p.2 * g p.1 i).sum
  | [], v, hl, _ => ⟨hl, fun i => by show g v i = g v i + 0; omega⟩
  | p :: l, v, hl, h => by
    have hp := h p List.mem_cons_self
    obtain ⟨a, b⟩ := spread_fold l (ax p.2 v p.1) (by rw [ax_len]; omega) fun x hx => h x (List.mem_cons_of_mem _ hx)
    refine ⟨a, fun i => ?_⟩
    rw [List.foldl_cons, b i, ax_g (by omega), List.map_cons, List.sum_cons]
    omega
theorem Good.elder (G : Good w R k s) {x : List Int} (hl : x.length = w) (hv : ∀ p ∈ s.pins, dot (row s.inv p.at_) x = p.value) :
    spreadM (pointOf w s.cols s.pins) (s.free.map (row s.cols)) (timesM (pointOf w s.cols s.pins) (s.free.map (row s.inv)) x) = x := by
  obtain ⟨p1, p2⟩ := G.point
  unfold spreadM timesM
  rw [List.map_map, List.zip_map']
  obtain ⟨a, b⟩ := spread_fold (w := w) (s.free.map fun z => (row s.cols z, ((fun r => dot r (ax (-1) x (pointOf w s.cols s.pins))) ∘ row s.inv) z)) (pointOf w s.cols s.pins) p1 fun q hq => by
    obtain ⟨z, hz, rfl⟩ := List.mem_map.mp hq
    exact G.inverse.wc.row (G.freeLt z hz)
  refine g_ext (by omega) fun i hi => ?_
  have hi : i < w := by omega
  rw [b i, List.map_map]
  have e0 : ∀ z ∈ s.free, dot (row s.inv z) (ax (-1) x (pointOf w s.cols s.pins)) = dot (row s.inv z) x := fun z hz => by
    rw [dot_ax (by omega), p2, lsum_zero fun p hp => ?_]
    · simp
    · rw [G.inverse.one z p.at_ (G.freeLt z hz) (G.pinLt p hp), if_neg (show ¬ z = p.at_ from fun q => G.apart p hp (q ▸ hz)), Int.mul_zero]
  have e1 : (s.free.map ((fun p : List Int × Int => p.2 * g p.1 i) ∘ fun z => (row s.cols z, ((fun r => dot r (ax (-1) x (pointOf w s.cols s.pins))) ∘ row s.inv) z))).sum = (s.free.map fun z => dot (row s.inv z) x * ent s.cols z i).sum := lsum_congr fun z hz => by
    show dot (row s.inv z) (ax (-1) x (pointOf w s.cols s.pins)) * ent s.cols z i = _
    rw [e0 z hz]
  rw [e1]
  have e2 : g (pointOf w s.cols s.pins) i = (s.pins.map fun p => dot (row s.inv p.at_) x * ent s.cols p.at_ i).sum := by
    have hu : ∀ v : List Int, v.length = w → dot ((List.range w).map fun j => if j = i then (1 : Int) else 0) v = g v i := fun v hv => by
      rw [dot_w (w := w) (.inr hv)]
      have gu : ∀ j, j < w → g ((List.range w).map fun j => if j = i then (1 : Int) else 0) j = if j = i then 1 else 0 := fun j hj => by
        unfold g
        rw [List.getD_eq_getElem?_getD, List.getElem?_map, List.getElem?_range hj]
        rfl
      rw [S_one hi fun j hj hn => by rw [gu j hj, if_neg hn, Int.zero_mul]]
      rw [gu i hi, if_pos rfl, Int.one_mul]
    rw [← hu _ p1, p2]
    refine lsum_congr fun p hp => ?_
    rw [hu _ (G.inverse.wc.row (G.pinLt p hp)), hv p hp]
    rfl
  rw [e2, ← G.sum fun a => dot (row s.inv a) x * ent s.cols a i]
  have := G.inverse.all (g x) i hi
  rw [← this]
  exact S_congr fun a _ => by rw [dot_w (w := w) (.inr hl)]; rfl
theorem settled_elder (hR : Rows w R) {x : List Int} (hx : Holds R w x) : ∃ s, settledM R w = endS w s ∧ Good w R R.length s ∧
    spreadM (pointOf w s.cols s.pins) (s.free.map (row s.cols)) (timesM (pointOf w s.cols s.pins) (s.free.map (row s.inv)) x) = x := by
  obtain ⟨s, e, G, hv⟩ := run_elder hR hx R 0 (startS w) rfl (Nat.zero_le _) (start_good w R) fun p h => nomatch h
  refine ⟨s, ?_, G, G.elder hx.len hv⟩
  unfold settledM
  rw [e]
end
end CfM

namespace CfM
/-! how great the numbers of settled are: bits by the number of pins -/
def mm : Nat → Nat
  | 0 => 0
  | r + 1 => 4 * mm r + 132
def jj : Nat → Nat
  | 0 => 0
  | r + 1 => jj r + 9 * mm r + 395
def vv : Nat → Nat
  | 0 => 0
  | r + 1 => vv r + mm r + 130
theorem mm_mono {a b : Nat} (h : a ≤ b) : mm a ≤ mm b := by
  induction b with
  | zero => rw [show a = 0 by omega]; exact Nat.le_refl _
  | succ b ih =>
    by_cases e : a = b + 1
    · rw [e]; exact Nat.le_refl _
    · have := ih (by omega)
      show mm a ≤ 4 * mm b + 132
      omega
theorem jj_mono {a b : Nat} (h : a ≤ b) : jj a ≤ jj b := by
  induction b with
  | zero => rw [show a = 0 by omega]; exact Nat.le_refl _
  | succ b ih =>
    by_cases e : a = b + 1
    · rw [e]; exact Nat.le_refl _
    · have := ih (by omega)
      show jj a ≤ jj b + 9 * mm b + 395
      omega
theorem vv_mono {a b : Nat} (h : a ≤ b) : vv a ≤ vv b := by
  induction b with
  | zero => rw [show a = 0 by omega]; exact Nat.le_refl _
  | succ b ih =>
    by_cases e : a = b + 1
    · rw [e]; exact Nat.le_refl _
    · have := ih (by omega)
      show vv a ≤ vv b + mm b + 130
      omega
theorem mm8 : mm 8 = 2883540 := by decide +kernel
theorem jj8 : jj 8 = 8650612 := by decide +kernel
theorem vv8 : vv 8 ≤ 1000000 := by decide +kernel
theorem p2 {a b : Nat} (h : a ≤ b) : 2 ^ a ≤ 2 ^ b := Nat.pow_le_pow_right (by decide) h
theorem S_bd {X : Nat} : ∀ (n : Nat) (f : Nat → Int), (∀ i, i < n → (f i).natAbs ≤ X) → (S n f).natAbs ≤ n * X
  | 0, f, _ => by show (0 : Int).natAbs ≤ 0 * X; simp
  | n + 1, f, h => by
    have a := S_bd n f fun i hi => h i (by omega)
    have b := h n (by omega)
    rw [Nat.succ_mul]
    show (S n f + f n).natAbs ≤ n * X + X
    omega
theorem dot_bd {u v : List Int} {w A B : Nat} (hl : u.length = w ∨ v.length = w) (h8 : w ≤ 8) (hu : ∀ i, (g u i).natAbs ≤ A) (hv : ∀ i, (g v i).natAbs ≤ B) : (dot u v).natAbs ≤ 8 * (A * B) := by
  rw [dot_w hl]
  refine Nat.le_trans (S_bd w _ fun i _ => ?_) (Nat.mul_le_mul_right _ h8)
  rw [Int.natAbs_mul]
  exact Nat.mul_le_mul (hu i) (hv i)
theorem lsum_bd {α : Type} {X : Nat} {f : α → Int} : ∀ (l : List α), (∀ x ∈ l, (f x).natAbs ≤ X) → ((l.map f).sum).natAbs ≤ l.length * X
  | [], _ => by simp
  | x :: l, h => by
    have a := lsum_bd l fun y hy => h y (List.mem_cons_of_mem _ hy)
    have b := h x List.mem_cons_self
    rw [List.map_cons, List.sum_cons, List.length_cons, Nat.succ_mul]
    omega
/-- rows of the sizes that the law has -/
structure RowB (r : List Int) : Prop where
  coef : ∀ i, (g r.tail i).natAbs ≤ 2 ^ 40
  const : (g r 0).natAbs ≤ 2 ^ 90
structure SB (s : SS) : Prop where
  cols : ∀ a i, (ent s.cols a i).natAbs ≤ 2 ^ mm s.pins.length
  inv : ∀ a i, (ent s.inv a i).natAbs ≤ 2 ^ jj s.pins.length
  value : ∀ p ∈ s.pins, p.value.natAbs ≤ 2 ^ vv s.pins.length
  whole : ∀ p ∈ s.pins, p.whole.natAbs ≤ 2 ^ (43 + mm s.pins.length)
  others : ∀ p ∈ s.pins, ∀ x ∈ p.others, x.2.natAbs ≤ 2 ^ (43 + mm s.pins.length)
theorem pow_join (a b c : Nat) : 2 ^ a * 2 ^ b = 2 ^ (a + b) := (Nat.pow_add 2 a b).symm
theorem prod_bd {r u : List Int} {w m : Nat} (hr : r.length = w + 1) (h8 : w ≤ 8) (B : RowB r) (hu : ∀ i, (g u i).natAbs ≤ 2 ^ m) : (dot r.tail u).natAbs ≤ 2 ^ (43 + m) := by
  have e := dot_bd (w := w) (.inl (by rw [List.length_tail, hr]; rfl)) h8 B.coef hu
  rw [show 43 + m = 3 + (40 + m) by omega, Nat.pow_add 2 3, Nat.pow_add 2 40]
  exact e
section
variable {w : Nat} {R : List (List Int)} {k : Nat} {s : SS}
/-- every state within turned -/
theorem turn_bd (h8 : w ≤ 8) (G : Good w R k s) (B : SB s) {r : List Int} (hr : r.length = w + 1) (RB : RowB r) (n : Nat) :
    BdC (turnF n s.cols s.inv s.free r.tail).1 s.free (2 ^ mm (s.pins.length + 1)) ∧ BdI (turnF n s.cols s.inv s.free r.tail).2.1 (2 ^ jj (s.pins.length + 1)) := by
  have l8 : s.free.length ≤ 8 := by have := G.len; omega
  have N1 : 1 ≤ 2 ^ (43 + mm s.pins.length) := Nat.pow_pos (by decide)
  obtain ⟨b1, b2⟩ := turned_bound G.freeLt G.freeNd l8 (n := n) (M := 2 ^ mm s.pins.length) (J := 2 ^ jj s.pins.length) (N := 2 ^ (43 + mm s.pins.length)) (coefs := r.tail) G.inverse (fun a _ i => B.cols a i) (fun b i => B.inv b i)
    (fun a _ => prod_bd hr h8 RB fun i => B.cols a i) N1
  refine ⟨fun a ha i => Nat.le_trans (b1 a ha i) ?_, fun b i => Nat.le_trans (b2 b i) ?_⟩
  · rw [← Nat.pow_mul, ← Nat.pow_add]
    have : 6 * 2 ^ (mm s.pins.length + (43 + mm s.pins.length) * 3) ≤ 2 ^ 3 * 2 ^ (mm s.pins.length + (43 + mm s.pins.length) * 3) := Nat.mul_le_mul_right _ (by decide)
    refine Nat.le_trans this ?_
    rw [← Nat.pow_add]
    refine p2 ?_
    show _ ≤ 4 * mm s.pins.length + 132
    omega
  · rw [← Nat.pow_mul, ← Nat.pow_add]
    have : 153 * 2 ^ (jj s.pins.length + (43 + mm s.pins.length) * 9) ≤ 2 ^ 8 * 2 ^ (jj s.pins.length + (43 + mm s.pins.length) * 9) := Nat.mul_le_mul_right _ (by decide)
    refine Nat.le_trans this ?_
    rw [← Nat.pow_add]
    refine p2 ?_
    show _ ≤ jj s.pins.length + 9 * mm s.pins.length + 395
    omega
theorem start_sb (w : Nat) : SB (startS w) := by
  have u : ∀ a i, (ent (unit w) a i).natAbs ≤ 1 := fun a i => by
    by_cases h : a < w
    · rw [unit_ent h]; split <;> decide
    · have : ent (unit w) a i = 0 := by
        unfold ent row
        rw [List.getD_eq_getElem?_getD, List.getElem?_eq_none (by rw [(unit_wf w).len]; omega)]
        exact g_nil i
      rw [this]; decide
  exact ⟨fun a i => u a i, fun a i => u a i, (fun p h => nomatch h), (fun p h => nomatch h), fun p h => nomatch h⟩
/-- behind turned -/
theorem turn_all (h8 : w ≤ 8) (G : Good w R k s) (B : SB s) {r : List Int} (hr : r.length = w + 1) (RB : RowB r) :
    (∀ a i, (ent (turnM s r.tail).1 a i).natAbs ≤ 2 ^ mm (s.pins.length + 1)) ∧ (∀ a i, (ent (turnM s r.tail).2.1 a i).natAbs ≤ 2 ^ jj (s.pins.length + 1)) := by
  obtain ⟨b1, b2⟩ := turn_bd h8 G B hr RB (fuelOf s.cols r.tail s.free)
  refine ⟨fun a i => ?_, b2⟩
  by_cases h : a ∈ s.free
  · exact b1 a h i
  · have := ((G.turned r.tail).keep a h).1
    unfold ent
    rw [this]
    exact Nat.le_trans (B.cols a i) (p2 (mm_mono (Nat.le_succ _)))
theorem left_bd (h8 : w ≤ 8) (G : Good w R k s) (B : SB s) {r : List Int} (hr : r.length = w + 1) (RB : RowB r) :
    (∀ x ∈ prods (turnM s r.tail).1 r.tail s.pins, x.2.natAbs ≤ 2 ^ (43 + mm s.pins.length)) ∧
    (leftOf (g r 0) (prods (turnM s r.tail).1 r.tail s.pins) s.pins).natAbs ≤ 2 ^ (vv s.pins.length + mm s.pins.length + 91) := by
  have e : ∀ p ∈ s.pins, (dot r.tail (row (turnM s r.tail).1 p.at_)).natAbs ≤ 2 ^ (43 + mm s.pins.length) := fun p hp => by
    rw [((G.turned r.tail).keep p.at_ (G.apart p hp)).1]
    exact prod_bd hr h8 RB fun i => B.cols p.at_ i
  have e1 : ∀ x ∈ prods (turnM s r.tail).1 r.tail s.pins, x.2.natAbs ≤ 2 ^ (43 + mm s.pins.length) := fun x hx => by
    unfold prods at hx
    obtain ⟨p, hp, rfl⟩ := List.mem_map.mp hx
    exact e p hp
  refine ⟨e1, ?_⟩
  unfold leftOf
  have l8 : s.pins.length ≤ 8 := by have := G.len; omega
  have b := lsum_bd (X := 2 ^ (43 + mm s.pins.length) * 2 ^ vv s.pins.length) (f := fun p : Pin => lk (prods (turnM s r.tail).1 r.tail s.pins) p.at_ * p.value) s.pins fun p hp => by
    rw [Int.natAbs_mul]
    exact Nat.mul_le_mul (lk_mem e1) (B.value p hp)
  have b2 : s.pins.length * (2 ^ (43 + mm s.pins.length) * 2 ^ vv s.pins.length) ≤ 2 ^ 3 * (2 ^ (43 + mm s.pins.length) * 2 ^ vv s.pins.length) := Nat.mul_le_mul_right _ l8
  rw [← Nat.pow_add, ← Nat.pow_add] at b2
  have b3 : 2 ^ (3 + (43 + mm s.pins.length + vv s.pins.length)) ≤ 2 ^ (vv s.pins.length + mm s.pins.length + 90) := p2 (by omega)
  have b4 : 2 ^ 90 ≤ 2 ^ (vv s.pins.length + mm s.pins.length + 90) := p2 (by omega)
  have b5 : 2 ^ (vv s.pins.length + mm s.pins.length + 91) = 2 * 2 ^ (vv s.pins.length + mm s.pins.length + 90) := by
    rw [show vv s.pins.length + mm s.pins.length + 91 = (vv s.pins.length + mm s.pins.length + 90) + 1 by omega, Nat.pow_succ, Nat.mul_comm]
  have c := RB.const
  rw [← Nat.pow_add] at b
  generalize (List.map (fun p : Pin => lk (prods (turnM s r.tail).1 r.tail s.pins) p.at_ * p.value) s.pins).sum = z at *
  omega
theorem whole_bd (h8 : w ≤ 8) (G : Good w R k s) (B : SB s) {r : List Int} (hr : r.length = w + 1) (RB : RowB r) (a : Nat) : (dot r.tail (row (turnM s r.tail).1 a)).natAbs ≤ 2 ^ (43 + mm (s.pins.length + 1)) :=
  prod_bd hr h8 RB fun i => (turn_all h8 G B hr RB).1 a i
theorem fdiv_abs {a b : Int} (h : a.fmod b = 0) (hb : b ≠ 0) : ((-a).fdiv b).natAbs ≤ a.natAbs := by
  have e := fmod_zero_mul h hb
  have e2 : a.natAbs = ((-a).fdiv b).natAbs * b.natAbs := by
    rw [← Int.natAbs_mul]
    generalize (-a).fdiv b * b = t at e ⊢
    omega
  rw [e2]
  exact Nat.le_mul_of_pos_right _ (by omega)
theorem step_sb (hR : Rows w R) (h8 : w ≤ 8) (hk : k < R.length) (G : Good w R k s) (B : SB s) (RB : RowB (row R k)) {s' : SS} (e : stepS R.length k (row R k) s = .inl s') : SB s' := by
  have hr : (row R k).length = w + 1 := hR.each _ (List.mem_of_getElem? (show R[k]? = some (row R k) by
    unfold row
    rw [List.getD_eq_getElem?_getD, List.getElem?_eq_getElem hk]
    rfl))
  have T := G.turned (cf R k)
  obtain ⟨t1, t2⟩ := turn_all h8 G B hr RB
  obtain ⟨l1, l2⟩ := left_bd h8 G B hr RB
  have wb := whole_bd h8 G B hr RB
  unfold stepS at e
  dsimp only at *
  generalize turnM s (cf R k) = t at *
  obtain ⟨c', v', r⟩ := t
  dsimp only at *
  generalize leftOf (g (row R k) 0) (prods c' (cf R k) s.pins) s.pins = left at *
  cases r with
  | none =>
    obtain ⟨e1, e2, _⟩ := T.non rfl
    dsimp only at e
    by_cases h : left = 0
    · rw [if_pos h] at e
      cases e
      exact ⟨by show ∀ a i, (ent c' a i).natAbs ≤ _; rw [e1]; exact B.cols, by show ∀ a i, (ent v' a i).natAbs ≤ _; rw [e2]; exact B.inv, B.value, B.whole, B.others⟩
    · rw [if_neg h] at e
      cases e
  | some a =>
    obtain ⟨ha, h0, _⟩ := T.som a rfl
    dsimp only at e
    by_cases h : left.fmod (dot (cf R k) (row c' a)) = 0
    · rw [if_pos h] at e
      cases e
      have hm : 2 ^ (43 + mm s.pins.length) ≤ 2 ^ (43 + mm (s.pins.length + 1)) := p2 (Nat.add_le_add_left (mm_mono (Nat.le_succ _)) _)
      refine ⟨?_, ?_, fun p hp => ?_, fun p hp => ?_, fun p hp x hx => ?_⟩
      · show ∀ b i, (ent c' b i).natAbs ≤ 2 ^ mm (s.pins ++ [pinOf a k _ _ _]).length
        rw [List.length_append]
        exact t1
      · show ∀ b i, (ent v' b i).natAbs ≤ 2 ^ jj (s.pins ++ [pinOf a k _ _ _]).length
        rw [List.length_append]
        exact t2
      · show p.value.natAbs ≤ 2 ^ vv (s.pins ++ [pinOf a k _ _ _]).length
        rw [List.length_append]
        rcases List.mem_append.mp hp with z | z
        · exact Nat.le_trans (B.value p z) (p2 (vv_mono (Nat.le_succ _)))
        · rw [List.mem_singleton] at z
          rw [z]
          refine Nat.le_trans (fdiv_abs h h0) (Nat.le_trans l2 (p2 ?_))
          show _ ≤ vv s.pins.length + mm s.pins.length + 130
          omega
      · show p.whole.natAbs ≤ 2 ^ (43 + mm (s.pins ++ [pinOf a k _ _ _]).length)
        rw [List.length_append]
        rcases List.mem_append.mp hp with z | z
        · exact Nat.le_trans (B.whole p z) hm
        · rw [List.mem_singleton] at z
          rw [z]
          exact wb a
      · show x.2.natAbs ≤ 2 ^ (43 + mm (s.pins ++ [pinOf a k _ _ _]).length)
        rw [List.length_append]
        rcases List.mem_append.mp hp with z | z
        · exact Nat.le_trans (B.others p z x hx) hm
        · rw [List.mem_singleton] at z
          rw [z] at hx
          exact Nat.le_trans (l1 x hx) hm
    · rw [if_neg h] at e
      cases e
/-! within weighed -/
def XB (L i : Nat) : Nat := i * (2 * L + 1) + L
theorem weigh_bd {L : Nat} {pins : List Pin} {products : List (Nat × Int)} {many number : Nat} (hn : number < many) (hpl : ∀ p ∈ pins, p.place < many) (h0 : ∀ p ∈ pins, p.whole ≠ 0) (hw : ∀ p ∈ pins, p.whole.natAbs ≤ 2 ^ L) (ho : ∀ p ∈ pins, ∀ x ∈ p.others, x.2.natAbs ≤ 2 ^ L) (hd : ∀ p ∈ pins, (p.others.map (·.1)).Nodup)
    (hp : ∀ x ∈ products, x.2.natAbs ≤ 2 ^ L) : ∀ i, i ≤ pins.length → WBd (2 ^ XB L i) ((pins.reverse.take i).foldl wstep (wstart many products number)) ∧ ((pins.reverse.take i).foldl wstep (wstart many products number)).1.length = many
  | 0, _ => by
    refine ⟨⟨fun k => ?_, ?_, fun x hx => Nat.le_trans (hp x hx) (p2 (by unfold XB; omega))⟩, by show ((List.replicate many (0 : Int)).set number 1).length = many; simp⟩
    · show (g ((List.replicate many (0 : Int)).set number 1) k).natAbs ≤ _
      have one : 1 ≤ 2 ^ XB L 0 := Nat.pow_pos (by decide)
      rw [g_set (by simpa using hn)]
      split
      · exact one
      · by_cases hk : k < many
        · have := g_mem (v := List.replicate many (0 : Int)) (i := k) (by simpa using hk)
          rw [(List.mem_replicate.mp this).2]
          exact Nat.zero_le _
        · rw [g_out (by simp; omega)]
          exact Nat.zero_le _
    · show (1 : Int).natAbs ≤ _
      exact Nat.pow_pos (by decide)
  | i + 1, hi => by
    obtain ⟨a, b⟩ := weigh_bd hn hpl h0 hw ho hd hp i (by omega)
    have hlt : i < pins.reverse.length := by rw [List.length_reverse]; omega
    rw [List.take_succ_eq_append_getElem hlt, List.foldl_append, List.foldl_cons, List.foldl_nil]
    have hm : pins.reverse[i] ∈ pins := List.mem_reverse.mp (List.getElem_mem hlt)
    refine ⟨?_, ?_⟩
    · have z := wstep_bd (W := 2 ^ L) (h0 _ hm) (hw _ hm) (ho _ hm) (hd _ hm) (by rw [b]; exact hpl _ hm) a
      have e : 2 * (2 ^ L * 2 ^ L) * 2 ^ XB L i = 2 ^ XB L (i + 1) := by
        rw [← Nat.pow_add, show 2 * 2 ^ (L + L) = 2 ^ (1 + (L + L)) by rw [Nat.pow_add 2 1], ← Nat.pow_add]
        unfold XB
        rw [show (i + 1) * (2 * L + 1) = i * (2 * L + 1) + (2 * L + 1) from Nat.succ_mul _ _]
        generalize i * (2 * L + 1) = z
        congr 1
        omega
      rw [e] at z
      exact z
    · unfold wstep
      rw [List.length_set, List.length_map]
      exact b
end
end CfM

namespace CfM
section
variable {w : Nat} {R : List (List Int)} {k : Nat} {s : SS}
theorem row_in {k : Nat} (hk : k < R.length) : R[k]? = some (row R k) := by
  unfold row
  rw [List.getD_eq_getElem?_getD, List.getElem?_eq_getElem hk]
  rfl
theorem row_mem {k : Nat} (hk : k < R.length) : row R k ∈ R := List.mem_of_getElem? (row_in hk)
def LW : Nat := 43 + mm 8
def DB : Nat := XB LW 8 + vv 8 + mm 8 + 140
def PB : Nat := vv 8 + mm 8 + 3
theorem DB_eq : DB = XB LW 8 + vv 8 + mm 8 + 140 := rfl
theorem LW_eq : LW = 43 + mm 8 := rfl
theorem PB_eq : PB = vv 8 + mm 8 + 3 := rfl
theorem XB_mono {L a b : Nat} (h : a ≤ b) : XB L a ≤ XB L b := by
  unfold XB
  exact Nat.add_le_add_right (Nat.mul_le_mul_right _ h) _
theorem fdiv_pos_dvd {D s : Int} (hD : 0 < D) (hs : 0 < s) (h : s ∣ D) : 0 < D.fdiv s := by
  obtain ⟨d, rfl⟩ := h
  rw [Int.mul_comm, Int.mul_fdiv_cancel _ (by omega)]
  rcases Int.lt_or_le 0 d with z | z
  · exact z
  · have : s * d ≤ 0 := Int.mul_nonpos_of_nonneg_of_nonpos (by omega) z
    omega
theorem rest_le {ws : List Int} {D : Int} (hD : 0 < D) : (restM ws D).2 ≤ D := by
  obtain ⟨s1, ⟨d, hd⟩, _⟩ := shareM_dvd ws D hD
  unfold restM
  show D.fdiv (shareM ws D) ≤ D
  generalize shareM ws D = s at *
  rw [hd, Int.mul_comm, Int.mul_fdiv_cancel _ (by omega)]
  have hd0 : 0 < d := by
    rcases Int.lt_or_le 0 d with z | z
    · exact z
    · have : s * d ≤ 0 := Int.mul_nonpos_of_nonneg_of_nonpos (by omega) z
      omega
  have : d * 1 ≤ d * s := Int.mul_le_mul_of_nonneg_left (by omega) (by omega)
  omega
/-- the state of weighed behind i turns, where settled asks it -/
theorem weigh_at (hR : Rows w R) (h8 : w ≤ 8) (hk : k < R.length) (G : Good w R k s) (B : SB s) (RB : RowB (row R k)) (i : Nat) (hi : i ≤ s.pins.length) :
    WBd (2 ^ XB LW i) ((s.pins.reverse.take i).foldl wstep (wstart R.length (prods (turnM s (cf R k)).1 (cf R k) s.pins) k)) ∧ ((s.pins.reverse.take i).foldl wstep (wstart R.length (prods (turnM s (cf R k)).1 (cf R k) s.pins) k)).1.length = R.length := by
  have hr := hR.each _ (row_mem hk)
  have l8 : s.pins.length ≤ 8 := by have := G.len; omega
  have up : 2 ^ (43 + mm s.pins.length) ≤ 2 ^ LW := p2 (Nat.add_le_add_left (mm_mono l8) _)
  have P1 := G.pinsOk.whole
  have P2 := G.pinsOk.others
  refine weigh_bd hk (fun p hp => Nat.lt_trans (G.place p hp) hk) (fun p hp => (P1 p hp).2) (fun p hp => Nat.le_trans (B.whole p hp) up) (fun p hp x hx => Nat.le_trans (B.others p hp x hx) up) (fun p hp => (P2 p hp).1) (fun x hx => Nat.le_trans ((left_bd h8 G B hr RB).1 x hx) up) i hi
theorem weigh_end (hR : Rows w R) (h8 : w ≤ 8) (hk : k < R.length) (G : Good w R k s) (B : SB s) (RB : RowB (row R k)) :
    WBd (2 ^ XB LW 8) (weighedM R.length s.pins (prods (turnM s (cf R k)).1 (cf R k) s.pins) k) := by
  have l8 : s.pins.length ≤ 8 := by have := G.len; omega
  have z := (weigh_at hR h8 hk G B RB s.pins.length (Nat.le_refl _)).1
  rw [List.take_of_length_le (by rw [List.length_reverse]; exact Nat.le_refl _)] at z
  have up : 2 ^ XB LW s.pins.length ≤ 2 ^ XB LW 8 := p2 (XB_mono l8)
  exact ⟨fun j => Nat.le_trans (z.ws j) up, Nat.le_trans z.often up, fun x hx => Nat.le_trans (z.left x hx) up⟩
/-- the numbers that rest_by is handed -/
theorem step_rest (hR : Rows w R) (h8 : w ≤ 8) (hk : k < R.length) (G : Good w R k s) (B : SB s) (RB : RowB (row R k)) :
    ((weighedM R.length s.pins (prods (turnM s (cf R k)).1 (cf R k) s.pins) k).2.1.natAbs ≤ 2 ^ XB LW 8) ∧
    (leftOf (g (row R k) 0) (prods (turnM s (cf R k)).1 (cf R k) s.pins) s.pins).natAbs ≤ 2 ^ (vv 8 + mm 8 + 91) ∧
    ((∃ a, (turnM s (cf R k)).2.2 = some a) → ∀ a, (dot (cf R k) (row (turnM s (cf R k)).1 a)).natAbs ≤ 2 ^ LW) := by
  have hr := hR.each _ (row_mem hk)
  have l8 : s.pins.length ≤ 8 := by have := G.len; omega
  refine ⟨(weigh_end hR h8 hk G B RB).often, Nat.le_trans (left_bd h8 G B hr RB).2 (p2 ?_), fun ⟨a, ha⟩ b => Nat.le_trans (whole_bd h8 G B hr RB b) (p2 ?_)⟩
  · have := mm_mono l8
    have := vv_mono l8
    omega
  · have hf := ((G.turned (cf R k)).som a ha).1
    have : 1 ≤ s.free.length := List.length_pos_of_mem hf
    have := G.len
    exact Nat.add_le_add_left (mm_mono (by omega)) _
theorem pow_cast (n : Nat) : ((2 : Int) ^ n) = ((2 ^ n : Nat) : Int) := (Int.natCast_pow 2 n).symm
/-- a rest is told with d not too great -/
theorem rest_small (hR : Rows w R) (h8 : w ≤ 8) (hk : k < R.length) (G : Good w R k s) (B : SB s) (RB : RowB (row R k)) {ws : List Int} {d : Int} (e : stepS R.length k (row R k) s = .inr (.rest ws d)) : d ≤ 2 ^ DB := by
  obtain ⟨b1, b2, b3⟩ := step_rest hR h8 hk G B RB
  have G1 := G.turn (cf R k)
  have pos := (G1.weigh hR hk).pos
  have T := G.turned (cf R k)
  unfold stepS at e
  dsimp only at *
  have one : ∀ n : Nat, 1 ≤ 2 ^ n := fun n => Nat.pow_pos (by decide)
  rw [pow_cast]
  generalize turnM s (cf R k) = t at *
  obtain ⟨c', v', r⟩ := t
  dsimp only at *
  generalize leftOf (g (row R k) 0) (prods c' (cf R k) s.pins) s.pins = left at *
  generalize weighedM R.length s.pins (prods c' (cf R k) s.pins) k = q at *
  cases r with
  | none =>
    dsimp only at e
    by_cases h : left = 0
    · rw [if_pos h] at e
      cases e
    · rw [if_neg h] at e
      cases e
      refine Int.le_trans (rest_le (by rw [absI_eq]; omega)) ?_
      rw [absI_eq, Int.natAbs_mul]
      have m := Nat.mul_le_mul b1 b2
      rw [← Nat.pow_add] at m
      have u : 2 ^ DB = 2 ^ (XB LW 8 + (vv 8 + mm 8 + 91)) * 2 ^ 49 := by
        rw [← Nat.pow_add, DB_eq]
        generalize XB LW 8 = x1
        generalize vv 8 = x2
        generalize mm 8 = x3
        rw [show x1 + x2 + x3 + 140 = x1 + (x2 + x3 + 91) + 49 by omega]
      have o := one (XB LW 8 + (vv 8 + mm 8 + 91))
      generalize q.2.1.natAbs * left.natAbs = z at *
      generalize 2 ^ (XB LW 8 + (vv 8 + mm 8 + 91)) = y at *
      have e49 : 2 ^ 49 = 562949953421312 := by decide
      rw [e49] at u
      omega
  | some a =>
    obtain ⟨_, h0, _⟩ := T.som a rfl
    have b4 := b3 ⟨a, rfl⟩ a
    dsimp only at e
    by_cases h : left.fmod (dot (cf R k) (row c' a)) = 0
    · rw [if_pos h] at e
      cases e
    · rw [if_neg h] at e
      cases e
      have hw : 0 < absI (dot (cf R k) (row c' a)) := by rw [absI_eq]; omega
      refine Int.le_trans (rest_le (Int.mul_pos (by omega) hw)) ?_
      rw [absI_eq]
      have m := Nat.mul_le_mul b1 b4
      rw [← Nat.pow_add] at m
      have u : 2 ^ (XB LW 8 + LW) ≤ 2 ^ DB := p2 (by rw [DB_eq]; generalize XB LW 8 = x1; rw [LW_eq]; generalize vv 8 = x2; generalize mm 8 = x3; omega)
      have e1 : q.2.1 = (q.2.1.natAbs : Int) := by omega
      rw [e1]
      have e2 : (q.2.1.natAbs : Int) * ((dot (cf R k) (row c' a)).natAbs : Int) = ((q.2.1.natAbs * (dot (cf R k) (row c' a)).natAbs : Nat) : Int) := (Int.natCast_mul _ _).symm
      rw [e2]
      omega
theorem point_grow {M V : Nat} {cols : List (List Int)} {w : Nat} : ∀ (pins : List Pin) (pt : List Int) (X : Nat), pt.length = w → (∀ p ∈ pins, (row cols p.at_).length = w) → (∀ p ∈ pins, p.value.natAbs ≤ V) → (∀ a i, (ent cols a i).natAbs ≤ M) → (∀ i, (g pt i).natAbs ≤ X) →
    ∀ i, (g (pins.foldl (fun pt p => ax p.value pt (row cols p.at_)) pt) i).natAbs ≤ X + pins.length * (V * M)
  | [], pt, X, _, _, _, _, h, i => by
    have := h i
    simpa using this
  | p :: pins, pt, X, hl, hr, hv, hm, h, i => by
    have lp := hr p List.mem_cons_self
    have z := point_grow pins (ax p.value pt (row cols p.at_)) (X + V * M) (by rw [ax_len]; omega) (fun q hq => hr q (List.mem_cons_of_mem _ hq)) (fun q hq => hv q (List.mem_cons_of_mem _ hq)) hm (fun j => by
      rw [ax_g (by omega)]
      have a := h j
      have b : (p.value * g (row cols p.at_) j).natAbs ≤ V * M := by
        rw [Int.natAbs_mul]
        exact Nat.mul_le_mul (hv p List.mem_cons_self) (hm p.at_ j)
      generalize p.value * g (row cols p.at_) j = y at *
      omega) i
    rw [List.foldl_cons, List.length_cons, Nat.succ_mul]
    omega
structure BaseB (point : List Int) (moves reads : List (List Int)) : Prop where
  point : ∀ i, (g point i).natAbs ≤ 2 ^ PB
  moves : ∀ m ∈ moves, ∀ i, (g m i).natAbs ≤ 2 ^ mm 8
  reads : ∀ m ∈ reads, ∀ i, (g m i).natAbs ≤ 2 ^ jj 8
theorem Good.small (h8 : w ≤ 8) (G : Good w R k s) (B : SB s) : BaseB (pointOf w s.cols s.pins) (s.free.map (row s.cols)) (s.free.map (row s.inv)) := by
  have l8 : s.pins.length ≤ 8 := by have := G.len; omega
  refine ⟨fun i => ?_, fun m hm i => ?_, fun m hm i => ?_⟩
  · have z := point_grow (M := 2 ^ mm 8) (V := 2 ^ vv 8) (cols := s.cols) (w := w) s.pins (List.replicate w 0) 0 (by simp) (fun p hp => G.inverse.wc.row (G.pinLt p hp)) (fun p hp => Nat.le_trans (B.value p hp) (p2 (vv_mono l8))) (fun a i => Nat.le_trans (B.cols a i) (p2 (mm_mono l8))) (fun i => by
      by_cases hi : i < w
      · have := g_mem (v := List.replicate w (0 : Int)) (i := i) (by simpa using hi)
        rw [(List.mem_replicate.mp this).2]
        exact Nat.le_refl _
      · rw [g_out (by simp; omega)]
        exact Nat.le_refl _) i
    refine Nat.le_trans z ?_
    rw [Nat.zero_add, ← Nat.pow_add]
    have : s.pins.length * 2 ^ (vv 8 + mm 8) ≤ 2 ^ 3 * 2 ^ (vv 8 + mm 8) := Nat.mul_le_mul_right _ l8
    rw [← Nat.pow_add] at this
    refine Nat.le_trans this (p2 ?_)
    rw [PB_eq]
    generalize vv 8 = x2
    generalize mm 8 = x3
    omega
  · obtain ⟨a, _, rfl⟩ := List.mem_map.mp hm
    exact Nat.le_trans (B.cols a i) (p2 (mm_mono l8))
  · obtain ⟨a, _, rfl⟩ := List.mem_map.mp hm
    exact Nat.le_trans (B.inv a i) (p2 (jj_mono l8))
/-- the rows added, as the program adds them -/
def totF (R : List (List Int)) (ws : List Int) (st : List Int) : List Int := (R.zip ws).foldl (fun t p => ax p.2 t p.1) st
theorem tot_g {n : Nat} : ∀ (R : List (List Int)) (ws : List Int) (st : List Int), st.length = n → (∀ r ∈ R, r.length = n) → ws.length = R.length → (totF R ws st).length = n ∧ ∀ j, g (totF R ws st) j = g st j + total R ws j
  | [], ws, st, hl, _, _ => ⟨hl, fun j => by show g st j = g st j + 0; omega⟩
  | r :: R, [], st, _, _, h => by simp at h
  | r :: R, x :: ws, st, hl, hr, h => by
    have lr := hr r List.mem_cons_self
    obtain ⟨a, b⟩ := tot_g R ws (ax x st r) (by rw [ax_len]; omega) (fun q hq => hr q (List.mem_cons_of_mem _ hq)) (by simpa using h)
    refine ⟨a, fun j => ?_⟩
    show g (totF R ws (ax x st r)) j = _
    rw [b j, ax_g (by omega)]
    have e : total (r :: R) (x :: ws) j = x * g r j + total R ws j := by
      unfold total
      rw [List.length_cons, S_front]
      rfl
    rw [e]
    omega
end
end CfM

namespace CfM
theorem turnF_pivot (n : Nat) (cols inv : List (List Int)) (free : List Nat) (coefs : List Int) {p0 p1 : Int × Int} {ps : List (Int × Int)} (h : lft (fnd cols coefs free) = p0 :: p1 :: ps) :
    ∃ p, p ∈ nz cols coefs free ∧ (∀ a ∈ nz cols coefs free, (dot coefs (row cols p)).natAbs ≤ (dot coefs (row cols a)).natAbs) ∧ minP p0 (p1 :: ps) = (absI (dot coefs (row cols p)), (p : Int)) ∧
      turnF (n + 1) cols inv free coefs = turnF n ((nz cols coefs free).foldl (stepT (quo (fnd cols coefs free) p) p) (cols, inv)).1 ((nz cols coefs free).foldl (stepT (quo (fnd cols coefs free) p) p) (cols, inv)).2 free coefs := by
  have hl := lft_nz cols coefs free
  have ha := ats_nz cols coefs free
  have ht : turnF (n + 1) cols inv free coefs = match lft (fnd cols coefs free) with
    | [] => (cols, inv, none)
    | [a] => (cols, inv, some a.2.toNat)
    | p :: ps =>
      let s := ((p :: ps).map fun x => x.2.toNat).foldl (stepT (quo (fnd cols coefs free) (minP p ps).2.toNat) (minP p ps).2.toNat) (cols, inv)
      turnF n s.1 s.2 free coefs := rfl
  rw [ht, h]
  rw [h] at ha
  obtain ⟨h1, h2⟩ := minP_spec (p1 :: ps) p0
  rw [← h, hl] at h1
  obtain ⟨a, hma, ea⟩ := List.mem_map.mp h1
  have e2 : (minP p0 (p1 :: ps)).2.toNat = a := by rw [← ea]; simp
  refine ⟨a, hma, fun b hb => ?_, ea.symm, ?_⟩
  · have h3 := h2 (absI (dot coefs (row cols b)), (b : Int)) (by rw [← h, hl]; exact List.mem_map.mpr ⟨b, hb, rfl⟩)
    rw [← ea, pairLt_iff] at h3
    simp only [absI_eq] at h3
    omega
  · dsimp only
    rw [← ha, e2]
end CfM

namespace CfX
open PySem PySem.Spec PyProof.Rows L2

/-! lists and tuples alike: t says which (true: a tuple) -/
def SqB (t : Bool) (K : PySem.W.Frag) (H : Hp) (a : Addr) (xs : List V) : Prop := match t with
  | false => SqL K H a xs
  | true => SqT K H a xs
def ItB (t : Bool) (h : Heap) (it a : Addr) (i : Nat) : Prop := match t with
  | false => h.IsListIter it a i
  | true => h.IsTupleIter it a i
def IsB (t : Bool) (h : Heap) (a : Addr) (items : Array Value) : Prop := match t with
  | false => h.IsList a items
  | true => h.IsTuple a items
def iterObj (t : Bool) (a : Addr) : Obj := match t with
  | false => { cls := .type "list_iterator", data := .fields #[.ref a, .int 0 0] }
  | true => { cls := .type "tuple_iterator", data := .fields #[.ref a, .int 0 0] }
theorem iter_begins (t : Bool) (a : Addr) (items : Array Value) : PySem.Begins (.ref a) (iterObj t a) (fun h => IsB t h a items) := by
  cases t
  · exact PySem.begins_list a items
  · exact PySem.begins_tuple a items
theorem draws_of (t : Bool) {prog : Program} {w : World} {A : Around} (hh : A.handled = none) (it a : Addr) (ne : a ≠ it) (items : Array Value) :
    Draws prog w A it [it, a] items.size (fun i v => items[i]? = some v) (fun i h => ItB t h it a i ∧ IsB t h a items) := by
  cases t
  · exact Draws.list hh it a ne items
  · exact Draws.tuple hh it a ne items
theorem ItB.new (t : Bool) {h : Heap} {it a : Addr} (e : h.get? it = some (iterObj t a)) : ItB t h it a 0 := by
  cases t
  · exact ⟨_, e, rfl, rfl⟩
  · exact ⟨_, e, rfl, rfl⟩
theorem ItB.obj {t : Bool} {h : Heap} {it a : Addr} {i : Nat} (x : ItB t h it a i) : ∃ o, h.get? it = some o ∧ ∀ v, o.data ≠ .cell v := by
  cases t
  · obtain ⟨o, e, _, d⟩ := x
    exact ⟨o, e, fun v q => by rw [d] at q; cases q⟩
  · obtain ⟨o, e, _, d⟩ := x
    exact ⟨o, e, fun v q => by rw [d] at q; cases q⟩
theorem ItB.moves {t : Bool} {h g : Heap} {it a : Addr} {i : Nat} (x : ItB t h it a i) (k : ∀ o, h.get? it = some o → g.get? it = some o) : ItB t g it a i := by
  cases t
  · exact PySem.Heap.IsListIter.at x k
  · exact PySem.Heap.IsTupleIter.at x k
section
variable {X : Cx} {pins : List (Addr × Obj)} {σ : L2.St} {H : Hp} {s : Shared}
theorem seqB {t : Bool} {a : Addr} {xs : List V} (I : Inv X pins σ H s) (h : SqB t X.K H a xs) : ∃ its : List Value, Vals xs its ∧ IsB t s.heap a its.toArray ∧ xs.length ≤ sizeLine := by
  cases t
  · obtain ⟨its, r, p, z⟩ := I.list h
    exact ⟨its, r, p.isList, z⟩
  · obtain ⟨its, r, p, z⟩ := I.tuple h
    exact ⟨its, r, p, z⟩
theorem IsB.lt {t : Bool} {h : Heap} {a : Addr} {items : Array Value} (x : IsB t h a items) : a < h.objs.size := by
  cases t
  · obtain ⟨o, e, _⟩ := x
    exact Heap.lt_size e
  · obtain ⟨o, e, _⟩ := x
    exact Heap.lt_size e
end

/-! zip over two of these, which stay as they are -/
def ItZ (K : PySem.W.Frag) (t u : Bool) (a b : Addr) (xs ys : List V) : It where
  go := fun i H => SqB t K H a xs ∧ SqB u K H b ys ∧ i < xs.length ∧ i < ys.length
  yld := fun i H v H' => ∃ T x y, v = .ref T ∧ H T = none ∧ H' = upd H T (.tup [x, y]) ∧ xs[i]? = some x ∧ ys[i]? = some y
  stop := fun i H => SqB t K H a xs ∧ SqB u K H b ys ∧ i = min xs.length ys.length

theorem mem5 {c N : Nat} (h : c ∈ [N + 4, N + 2, N + 3, N, N + 1]) : c = N + 4 ∨ c = N + 2 ∨ c = N + 3 ∨ c = N ∨ c = N + 1 := by simpa using h
theorem ge5 {c N : Nat} (h : c ∈ [N + 4, N + 2, N + 3, N, N + 1]) : N ≤ c := by
  have := mem5 h
  omega
theorem turnZ {P : Program} {w : World} {K : PySem.W.Frag} {elts : List Expr} {kk : Nat} {tpos : Pos} (t u : Bool) (a b : Addr) (xs ys : List V) (N : Nat) (la : a < N) (lb : b < N) :
    Turn P w K (.Tuple elts kk tpos) (ItZ K t u a b xs ys) [N + 4, N + 2, N + 3, N, N + 1] (N + 4)
      (fun i h => IsZip h (N + 4) (N + 2) (N + 3) .none ∧ PySem.IsTupOf2 h (N + 2) (.ref N) (.ref (N + 1)) ∧ (∃ x y, PySem.IsTupOf2 h (N + 3) x y) ∧ ItB t h N a i ∧ ItB u h (N + 1) b i) where
  mem := by simp
  obj := fun i h st c hc => by
    obtain ⟨hz, hTI, ⟨x, y, hTO⟩, h1, h2⟩ := st
    rcases mem5 hc with q | q | q | q | q
    · rw [q]; exact ⟨_, hz, fun v r => nomatch r⟩
    · rw [q]; exact ⟨_, hTI, fun v r => nomatch r⟩
    · rw [q]; exact ⟨_, hTO, fun v r => nomatch r⟩
    · rw [q]; exact h1.obj
    · rw [q]; exact h2.obj
  keep := fun i h h' st k => by
    obtain ⟨hz, hTI, ⟨x, y, hTO⟩, h1, h2⟩ := st
    exact ⟨k _ (by simp) _ hz, k _ (by simp) _ hTI, ⟨x, y, k _ (by simp) _ hTO⟩, h1.moves fun o e => k _ (by simp) o e, h2.moves fun o e => k _ (by simp) o e⟩
  item := by
    intro X eP ew eK hc i pins s σ H E I hf st hg
    subst eP ew eK
    obtain ⟨hz, hTI, hTO, h1, h2⟩ := st
    obtain ⟨qx, qy, lx, ly⟩ := hg
    obtain ⟨ix, rx, px, _⟩ := seqB I qx
    obtain ⟨iy, ry, py, _⟩ := seqB I qy
    have ex := rx.length
    have ey := ry.length
    have hh : X.A.in1.handled = none := I.ok.hd hc
    have S : PySem.ZipSep2 (N + 4) (N + 2) (N + 3) N (N + 1) (N :: [a]) ((N + 1) :: [b]) := PySem.zip_sep2 (fun c hm => by rw [List.mem_singleton.mp hm]; exact la) (fun c hm => by rw [List.mem_singleton.mp hm]; exact lb)
    have D1 := draws_of t (prog := X.prog) (w := X.w) hh N a (Nat.ne_of_lt la) ix.toArray
    have D2 := draws_of u (prog := X.prog) (w := X.w) hh (N + 1) b (Nat.ne_of_lt (Nat.lt_succ_of_lt lb)) iy.toArray
    have W := PySem.WalksT.zipD2 S D1 D2
    refine W.item i s _ E (by simp; omega) ⟨hz, hTI, hTO, ⟨h1, px⟩, ⟨h2, py⟩⟩ fun T vals h' tk hP hT isT mid kp => ?_
    refine ⟨_, rfl, W.go elts kk tpos i T { s with heap := h', toks := tk } _ E mid fun h'' st'' kp' => ?_⟩
    obtain ⟨u1, u2, e1, e2, rfl⟩ := hP
    have gx : xs[i]? = some xs[i] := List.getElem?_eq_getElem lx
    have gy : ys[i]? = some ys[i] := List.getElem?_eq_getElem ly
    obtain ⟨v1, f1, r1⟩ := rx.get gx
    obtain ⟨v2, f2, r2⟩ := ry.get gy
    have z1 : v1 = u1 := Option.some.inj (f1.symm.trans (by simpa using e1))
    have z2 : v2 = u2 := Option.some.inj (f2.symm.trans (by simpa using e2))
    subst z1 z2
    obtain ⟨oT, gT, cT⟩ := isT
    have nT : T ∉ [N + 4, N + 3, N, N + 1] := W.apart i T h' mid
    have new : ObjOk X.prog X.w (upd H T (.tup [xs[i], ys[i]])) h'' T (.tup [xs[i], ys[i]]) :=
      ⟨by show 2 ≤ sizeLine; decide, [v1, v2], .cons r1 (.cons r2 .nil), ⟨oT, kp' T oT nT gT, cT⟩⟩
    have sub : ∀ c, c ∉ [N + 4, N + 2, N + 3, N, N + 1] → c ∉ [N + 4, N + 3, N, N + 1] := fun c hc hm => hc (by
      have q : c = N + 4 ∨ c = N + 3 ∨ c = N ∨ c = N + 1 := by simpa using hm
      rcases q with q | q | q | q <;> rw [q] <;> simp)
    have I1 : Inv X pins σ (upd H T (.tup [xs[i], ys[i]])) { s with heap := h'', toks := tk } :=
      I.turnedNew (ch := [N + 4, N + 2, N + 3, N, N + 1]) (fun c o hb q => kp' c o (sub c hb) (kp c o (sub c hb) q)) hf hT new
    refine ⟨.ref T, _, I1, rfl, ⟨T, _, _, rfl, I.hok.fresh hT, rfl, gx, gy⟩, ⟨st''.1, st''.2.1, st''.2.2.1, st''.2.2.2.1.1, st''.2.2.2.2.1⟩, fun c hm => ?_⟩
    have hlt : c < s.heap.objs.size := by
      rcases mem5 hm with q | q | q | q | q
      · rw [q]; exact Heap.lt_size hz
      · rw [q]; exact Heap.lt_size hTI
      · rw [q]; obtain ⟨_, _, e⟩ := hTO; exact Heap.lt_size e
      · rw [q]; obtain ⟨_, e, _⟩ := h1.obj; exact Heap.lt_size e
      · rw [q]; obtain ⟨_, e, _⟩ := h2.obj; exact Heap.lt_size e
    rw [upd_ne (Nat.ne_of_lt (Nat.lt_of_lt_of_le hlt hT))]
    exact (hf c hm).1
  done := by
    intro X eP ew eK hc i pins s σ H E I hf st hg
    subst eP ew eK
    obtain ⟨hz, hTI, hTO, h1, h2⟩ := st
    obtain ⟨qx, qy, ei⟩ := hg
    obtain ⟨ix, rx, px, _⟩ := seqB I qx
    obtain ⟨iy, ry, py, _⟩ := seqB I qy
    have ex := rx.length
    have ey := ry.length
    have hh : X.A.in1.handled = none := I.ok.hd hc
    have S : PySem.ZipSep2 (N + 4) (N + 2) (N + 3) N (N + 1) (N :: [a]) ((N + 1) :: [b]) := PySem.zip_sep2 (fun c hm => by rw [List.mem_singleton.mp hm]; exact la) (fun c hm => by rw [List.mem_singleton.mp hm]; exact lb)
    have D1 := draws_of t (prog := X.prog) (w := X.w) hh N a (Nat.ne_of_lt la) ix.toArray
    have D2 := draws_of u (prog := X.prog) (w := X.w) hh (N + 1) b (Nat.ne_of_lt (Nat.lt_succ_of_lt lb)) iy.toArray
    have W := PySem.WalksT.zipD2 S D1 D2
    have en : min ix.toArray.size iy.toArray.size = i := by simp; omega
    refine W.done s _ E (by rw [en]; exact ⟨hz, hTI, hTO, ⟨h1, px⟩, ⟨h2, py⟩⟩) fun h' tk kp => ⟨rfl, ?_⟩
    refine I.turnedL (ch := [N + 4, N + 2, N + 3, N, N + 1]) (fun c o hb q => kp c o (fun hm => hb (by
      have q : c = N + 4 ∨ c = N + 3 ∨ c = N ∨ c = N + 1 := by simpa using hm
      rcases q with q | q | q | q <;> rw [q] <;> simp)) q) hf
  self := fun A i s Q E st h => wpAny_pyIter_zip st.1 h

def iZipB (K : PySem.W.Frag) (ta : TA) : TI := fun σ H R => ta σ H fun vs H1 => ∃ t u a b xs ys, vs = [.ref a, .ref b] ∧ SqB t K H1 a xs ∧ SqB u K H1 b ys ∧ R (ItZ K t u a b xs ys) H1
theorem pi_zipB {X : Cx} {e e2 : Expr} {ta : TA} {p pos tpos : Pos} {elts : List Expr} {kk : Nat} (hg : Gl X "zip") (hm : X.mg "zip" = none) (ha : PA X [e, e2] ta)
    (hs : starEach [e, e2] X.env = (false, eval e X.env) :: starEach [e2] X.env := by rfl) (hpl : (backTo pos (starEach [e2] X.env)).any (·.1) = false := by rfl) :
    PI X (.Tuple elts kk tpos) (.Call (.Name "zip" p) [e, e2] [] pos) (iZipB X.K ta) := by
  refine ⟨fun pins s σ H R I h => ?_⟩
  refine Call_ (ld_blt I hg hm PyProof.Rows.boot_zip (PyProof.Rows.callWith_type1 (thn (ha.run pos pins s σ H _ I h) fun us s1 ⟨vs, H1, I1, r1, q1⟩ => ?_) hs hpl))
  obtain ⟨t, u, a, b, xs, ys, ex, qx, qy, q⟩ := q1
  subst ex
  cases r1 with
  | cons r rr =>
    cases rr with
    | cons r' rr =>
      cases rr
      cases r
      cases r'
      obtain ⟨ix, rx, px, _⟩ := seqB I1 qx
      obtain ⟨iy, ry, py, _⟩ := seqB I1 qy
      refine PySem.zip_begins2 (iter_begins t a ix.toArray) (iter_begins u b iy.toArray) px py fun h' hz hTI hTO g1 g2 hsz hk => wpAny_pyIter_zip hz ?_
      have I2 : Inv X pins σ H1 { s1 with heap := h' } := I1.kept (t' := s1.toks) hk
      exact ⟨s1.heap.objs.size + 4, _, _, _, H1, rfl, I2, turnZ t u a b xs ys s1.heap.objs.size px.lt py.lt, ⟨hz, hTI, ⟨_, _, hTO⟩, ItB.new t g1, ItB.new u g2⟩, fun c hm => I1.fpOk (ge5 hm) (I1.hok.fresh (ge5 hm)), q⟩

/-- a for over such a zip -/
theorem for_zipB {K : PySem.W.Frag} {t u : Bool} {a b : Addr} {xs ys : List V} {g : TG} {tb : TS} {D : Ends} {σ : L2.St} {H : Hp} (Pv : Nat → L2.St → Hp → Prop) (h0 : Pv 0 σ H) (hq : ∀ i σ H, Pv i σ H → SqB t K H a xs ∧ SqB u K H b ys)
    (hs : ∀ (i : Nat) (x y : V) (T : Addr) (σ : L2.St) (H : Hp), xs[i]? = some x → ys[i]? = some y → Pv i σ H → H T = none → g (.ref T) σ (upd H T (.tup [x, y])) fun σ2 H2 => tb { D with nx := Pv (i + 1), ct := Pv (i + 1), bk := D.nx } σ2 H2)
    (hd : ∀ σ H, Pv (min xs.length ys.length) σ H → D.nx σ H) :
    ∃ W : Nat → Nat → L2.St → Hp → Prop, (∃ m, W 0 m σ H) ∧ ∀ i m σ H, W i m σ H →
      ((ItZ K t u a b xs ys).stop i H ∧ D.nx σ H) ∨ ((ItZ K t u a b xs ys).go i H ∧ ∃ N : L2.St → Hp → Prop, (∀ σ' H', N σ' H' → ∃ m', m' < m ∧ W (i + 1) m' σ' H') ∧ ∀ v H', (ItZ K t u a b xs ys).yld i H v H' → g v σ H' fun σ2 H2 => tb { D with nx := N, ct := N, bk := D.nx } σ2 H2) := by
  refine ⟨fun i m σ H => m = min xs.length ys.length - i ∧ i ≤ min xs.length ys.length ∧ Pv i σ H, ⟨_, rfl, Nat.zero_le _, h0⟩, ?_⟩
  rintro i m σ H ⟨em, hi, p⟩
  obtain ⟨qx, qy⟩ := hq i σ H p
  by_cases hlt : i < min xs.length ys.length
  · refine .inr ⟨⟨qx, qy, by omega, by omega⟩, Pv (i + 1), fun σ' H' p' => ⟨_, by omega, rfl, by omega, p'⟩, fun v H' yv => ?_⟩
    obtain ⟨T, x, y, rfl, hT, rfl, f1, f2⟩ := yv
    exact hs i x y T σ H f1 f2 p hT
  · have ei : i = min xs.length ys.length := by omega
    refine .inl ⟨⟨qx, qy, ei⟩, hd σ H ?_⟩
    rw [← ei]
    exact p
/-- a list made over such a zip -/
theorem lc_zipB {K : PySem.W.Frag} {t u : Bool} {a b : Addr} {xs ys : List V} {g : TG} {tt : TT} {te : TE} {vs : List Nat} {σ : L2.St} {H1 : Hp} {D : Addr} {Qd : Hp → Prop} (Pv : Nat → Hp → Prop) (h0 : Pv 0 (upd H1 D (.lst []))) (hq : ∀ i H, Pv i H → SqB t K H a xs ∧ SqB u K H b ys)
    (hs : ∀ (i : Nat) (x y : V) (T : Addr) (H : Hp), xs[i]? = some x → ys[i]? = some y → Pv i H → H T = none → g (.ref T) (wipe σ vs) (upd H T (.tup [x, y])) fun σ2 H2 => wipe σ2 vs = wipe σ vs ∧ tt σ2 H2 fun k H3 =>
      if k = true then te σ2 H3 fun z H4 => ∃ acc, H4 D = some (.lst acc) ∧ acc.length < sizeLine ∧ Pv (i + 1) (upd H4 D (.lst (acc ++ [z]))) else Pv (i + 1) H3)
    (hd : ∀ H, Pv (min xs.length ys.length) H → Qd H) :
    ∃ W : Nat → Nat → Hp → Prop, (∃ m, W 0 m (upd H1 D (.lst []))) ∧ ∀ i m H, W i m H →
      ((ItZ K t u a b xs ys).stop i H ∧ Qd H) ∨ ((ItZ K t u a b xs ys).go i H ∧ ∃ Nx : Hp → Prop, (∀ H', Nx H' → ∃ m', m' < m ∧ W (i + 1) m' H') ∧ ∀ x H', (ItZ K t u a b xs ys).yld i H x H' → g x (wipe σ vs) H' fun σ2 H2 => wipe σ2 vs = wipe σ vs ∧ tt σ2 H2 fun k H3 =>
        if k = true then te σ2 H3 fun y H4 => ∃ acc, H4 D = some (.lst acc) ∧ acc.length < sizeLine ∧ Nx (upd H4 D (.lst (acc ++ [y]))) else Nx H3) := by
  refine ⟨fun i m H => m = min xs.length ys.length - i ∧ i ≤ min xs.length ys.length ∧ Pv i H, ⟨_, rfl, Nat.zero_le _, h0⟩, ?_⟩
  rintro i m H ⟨em, hi, p⟩
  obtain ⟨qx, qy⟩ := hq i H p
  by_cases hlt : i < min xs.length ys.length
  · refine .inr ⟨⟨qx, qy, by omega, by omega⟩, Pv (i + 1), fun H' p' => ⟨_, by omega, rfl, by omega, p'⟩, fun v H' yv => ?_⟩
    obtain ⟨T, x, y, rfl, hT, rfl, f1, f2⟩ := yv
    exact hs i x y T H f1 f2 p hT
  · have ei : i = min xs.length ys.length := by omega
    refine .inl ⟨⟨qx, qy, ei⟩, hd H ?_⟩
    rw [← ei]
    exact p
end CfX

namespace CfX
open PySem PySem.Spec PyProof.Rows L2

/-! enumerate over a list or a tuple that stays -/
theorem meets_enum1 {v : Value} {o : Obj} {G : Heap → Prop} (B : PySem.Begins v o G) :
    Meets (Builtin.«enumerate.__new__» ⟨[.type "enumerate", v], []⟩) (fun _ R s => G s.heap ∧
      R (.ok (.ret (.ref (s.heap.push o).objs.size))) { s with heap := (s.heap.push o).push { cls := .type "enumerate", data := .fields #[.none, .bool false, .ref s.heap.objs.size, rawInt 0, .none, .none] } }) :=
  .of_wp fun pr wo Ar R st hyp => by
    obtain ⟨hp, gn, dr, tk, os⟩ := st; obtain ⟨hG, fin⟩ := hyp
    have hsub := sub_enumerate
    have draw1 : ∀ {A' : Around} {E : Value → Shared → Prop} {Q : Value → Shared → Prop}, Q (.ref hp.objs.size) ⟨hp.push o, gn, dr, tk, os⟩ → wpAny (model pr wo) A' (pyIter v) Q E ⟨hp, gn, dr, tk, os⟩ :=
      fun q => B.iter pr wo _ _ ⟨hp, gn, dr, tk, os⟩ _ hG q
    wp_walk using draw1
    refine wpAny_stack_any fun stk => wpAny_pure ?_
    split
    · rename_i c _ _ _ _ _
      cases (c == Value.type "enumerate")
      · wp_walk using draw1
        exact ⟨_, rfl, fin⟩
      · wp_walk using draw1
        exact ⟨_, rfl, fin⟩
    · wp_walk using draw1
      exact ⟨_, rfl, fin⟩
theorem enum1_begins {prog : Program} {w : World} {A : Around} {E : Value → Shared → Prop} {s : Shared} {v : Value} {o : Obj} {G : Heap → Prop} {Q : Value → Shared → Prop} (B : PySem.Begins v o G) (h1 : G s.heap)
    (h : ∀ h', IsEnum h' (s.heap.objs.size + 1) s.heap.objs.size 0 .none → h'.get? s.heap.objs.size = some o → (∀ b ob, s.heap.get? b = some ob → h'.get? b = some ob) → Q (.ref (s.heap.objs.size + 1)) { s with heap := h' }) :
    wpAny (model prog w) A (call (.type "enumerate") [v]) Q E s := by
  refine callType_new F.called_enumerate (by decide) (F.typeCall_enumerate_1 _) (F.newCall_enumerate_1 _) (fun ob => F.args_object_init_2 ob _) F.entry_enumerate_new (meets_enum1 B) ⟨h1, ?_⟩
  have hz : (s.heap.push o).objs.size = s.heap.objs.size + 1 := Heap.size_push ..
  show _ ∧ _
  rw [hz]
  have he : IsEnum ((s.heap.push o).push { cls := .type "enumerate", data := .fields #[.none, .bool false, .ref s.heap.objs.size, rawInt 0, .none, .none] }) (s.heap.objs.size + 1) s.heap.objs.size 0 .none := by
    have q := Heap.get?_push_size (s.heap.push o) (o := { cls := .type "enumerate", data := .fields #[.none, .bool false, .ref s.heap.objs.size, rawInt 0, .none, .none] }) rfl
    rw [hz] at q
    exact q
  exact ⟨⟨_, he, rfl⟩, h _ he (Heap.get?_push_of_some _ (Heap.get?_push_size _ B.free)) fun b ob x => Heap.get?_push_of_some _ (Heap.get?_push_of_some _ x)⟩

theorem nin2 {N a : Nat} (h : a < N) : N + 1 ∉ [N, a] := by simp; omega
theorem ge2 {c N : Nat} (h : c ∈ [N + 1, N]) : N ≤ c := by
  have e' : c = N + 1 ∨ c = N := by simpa using h
  omega
def ItE (K : PySem.W.Frag) (t : Bool) (a : Addr) (xs : List V) : It where
  go := fun i H => SqB t K H a xs ∧ i < xs.length
  yld := fun i H v H' => ∃ T x, v = .ref T ∧ H T = none ∧ H' = upd H T (.tup [.int (i : Nat), x]) ∧ xs[i]? = some x
  stop := fun i H => SqB t K H a xs ∧ i = xs.length
theorem turnE {P : Program} {w : World} {K : PySem.W.Frag} {elts : List Expr} {kk : Nat} {tpos : Pos} (t : Bool) (a : Addr) (xs : List V) (N : Nat) (la : a < N) :
    Turn P w K (.Tuple elts kk tpos) (ItE K t a xs) [N + 1, N] (N + 1) (fun i h => (∃ old, IsEnum h (N + 1) N ((i : Nat) : Int) old) ∧ ItB t h N a i) where
  mem := by simp
  obj := fun i h st c hc => by
    obtain ⟨⟨old, he⟩, h1⟩ := st
    have e' : c = N + 1 ∨ c = N := by simpa using hc
    rcases e' with q | q
    · rw [q]; exact ⟨_, he, fun v r => nomatch r⟩
    · rw [q]; exact h1.obj
  keep := fun i h h' st k => by
    obtain ⟨⟨old, he⟩, h1⟩ := st
    exact ⟨⟨old, k _ (by simp) _ he⟩, h1.moves fun o e => k _ (by simp) o e⟩
  item := by
    intro X eP ew eK hc i pins s σ H E I hf st hg
    subst eP ew eK
    obtain ⟨he, h1⟩ := st
    obtain ⟨qx, lx⟩ := hg
    obtain ⟨ix, rx, px, _⟩ := seqB I qx
    have ex := rx.length
    have hh : X.A.in1.handled = none := I.ok.hd hc
    have D1 := draws_of t (prog := X.prog) (w := X.w) hh N a (Nat.ne_of_lt la) ix.toArray
    have W := PySem.WalksT.enumFrom 0 D1 (N + 1) (Nat.succ_ne_self N) (nin2 la) (by simp)
    refine W.item i s _ E (by simp; omega) ⟨by simpa using he, ⟨h1, px⟩⟩ fun T vals h' tk hP hT isT mid kp => ?_
    refine ⟨_, rfl, W.go elts kk tpos i T { s with heap := h', toks := tk } _ E mid fun h'' st'' kp' => ?_⟩
    obtain ⟨tt, u1, e1, rfl⟩ := hP
    have gx : xs[i]? = some xs[i] := List.getElem?_eq_getElem lx
    obtain ⟨v1, f1, r1⟩ := rx.get gx
    have z1 : v1 = u1 := Option.some.inj (f1.symm.trans (by simpa using e1))
    subst z1
    obtain ⟨oT, gT, cT⟩ := isT
    have nT : T ∉ [N + 1, N] := W.apart i T h' mid
    have new : ObjOk X.prog X.w (upd H T (.tup [.int (i : Nat), xs[i]])) h'' T (.tup [.int (i : Nat), xs[i]]) :=
      ⟨by show 2 ≤ sizeLine; decide, [.int (0 + (i : Int)) tt, v1], .cons ⟨tt, by rw [Int.zero_add]⟩ (.cons r1 .nil), ⟨oT, kp' T oT nT gT, cT⟩⟩
    have I1 : Inv X pins σ (upd H T (.tup [.int (i : Nat), xs[i]])) { s with heap := h'', toks := tk } :=
      I.turnedNew (ch := [N + 1, N]) (fun c o hb q => kp' c o hb (kp c o hb q)) hf hT new
    refine ⟨.ref T, _, I1, rfl, ⟨T, _, rfl, I.hok.fresh hT, rfl, gx⟩, ⟨by simpa using st''.1, st''.2.1⟩, fun c hm => ?_⟩
    have hlt : c < s.heap.objs.size := by
      have e' : c = N + 1 ∨ c = N := by simpa using hm
      rcases e' with q | q
      · rw [q]; obtain ⟨_, e⟩ := he; exact Heap.lt_size e
      · rw [q]; obtain ⟨_, e, _⟩ := h1.obj; exact Heap.lt_size e
    rw [upd_ne (Nat.ne_of_lt (Nat.lt_of_lt_of_le hlt hT))]
    exact (hf c hm).1
  done := by
    intro X eP ew eK hc i pins s σ H E I hf st hg
    subst eP ew eK
    obtain ⟨he, h1⟩ := st
    obtain ⟨qx, ei⟩ := hg
    obtain ⟨ix, rx, px, _⟩ := seqB I qx
    have ex := rx.length
    have hh : X.A.in1.handled = none := I.ok.hd hc
    have D1 := draws_of t (prog := X.prog) (w := X.w) hh N a (Nat.ne_of_lt la) ix.toArray
    have W := PySem.WalksT.enumFrom 0 D1 (N + 1) (Nat.succ_ne_self N) (nin2 la) (by simp)
    have en : ix.toArray.size = i := by simp; omega
    refine W.done s _ E (by rw [en]; exact ⟨by simpa using he, ⟨h1, px⟩⟩) fun h' tk kp => ⟨rfl, ?_⟩
    exact I.turnedL (ch := [N + 1, N]) (fun c o hb q => kp c o hb q) hf
  self := fun A i s Q E st h => let ⟨⟨_, he⟩, _⟩ := st; wpAny_pyIter_enum he h
def iEnumB (K : PySem.W.Frag) (ta : TA) : TI := fun σ H R => ta σ H fun vs H1 => ∃ t a xs, vs = [.ref a] ∧ SqB t K H1 a xs ∧ R (ItE K t a xs) H1
theorem pi_enumB {X : Cx} {e : Expr} {ta : TA} {p pos tpos : Pos} {elts : List Expr} {kk : Nat} (hg : Gl X "enumerate") (hm : X.mg "enumerate" = none) (ha : PA X [e] ta) (hs : starEach [e] X.env = [(false, eval e X.env)] := by rfl) :
    PI X (.Tuple elts kk tpos) (.Call (.Name "enumerate" p) [e] [] pos) (iEnumB X.K ta) := by
  refine ⟨fun pins s σ H R I h => ?_⟩
  refine Call_ (ld_blt I hg hm boot_enumerate (PyProof.Rows.callWith_type1 (thn (ha.run pos pins s σ H _ I h) fun us s1 ⟨vs, H1, I1, r1, q1⟩ => ?_) hs rfl))
  obtain ⟨t, a, xs, ex, qx, q⟩ := q1
  subst ex
  cases r1 with
  | cons r rr =>
    cases rr
    cases r
    obtain ⟨ix, rx, px, _⟩ := seqB I1 qx
    refine enum1_begins (iter_begins t a ix.toArray) px fun h' he g1 hk => wpAny_pyIter_enum he ?_
    have I2 : Inv X pins σ H1 { s1 with heap := h' } := I1.kept (t' := s1.toks) hk
    refine ⟨s1.heap.objs.size + 1, _, _, _, H1, rfl, I2, turnE t a xs s1.heap.objs.size px.lt, ⟨⟨_, he⟩, ItB.new t g1⟩, fun c hm => ?_, q⟩
    exact I1.fpOk (ge2 hm) (I1.hok.fresh (ge2 hm))
theorem for_enumB {K : PySem.W.Frag} {t : Bool} {a : Addr} {xs : List V} {g : TG} {tb : TS} {D : Ends} {σ : L2.St} {H : Hp} (Pv : Nat → L2.St → Hp → Prop) (h0 : Pv 0 σ H) (hq : ∀ i σ H, Pv i σ H → SqB t K H a xs)
    (hs : ∀ (i : Nat) (x : V) (T : Addr) (σ : L2.St) (H : Hp), xs[i]? = some x → Pv i σ H → H T = none → g (.ref T) σ (upd H T (.tup [.int (i : Nat), x])) fun σ2 H2 => tb { D with nx := Pv (i + 1), ct := Pv (i + 1), bk := D.nx } σ2 H2)
    (hd : ∀ σ H, Pv xs.length σ H → D.nx σ H) :
    ∃ W : Nat → Nat → L2.St → Hp → Prop, (∃ m, W 0 m σ H) ∧ ∀ i m σ H, W i m σ H →
      ((ItE K t a xs).stop i H ∧ D.nx σ H) ∨ ((ItE K t a xs).go i H ∧ ∃ N : L2.St → Hp → Prop, (∀ σ' H', N σ' H' → ∃ m', m' < m ∧ W (i + 1) m' σ' H') ∧ ∀ v H', (ItE K t a xs).yld i H v H' → g v σ H' fun σ2 H2 => tb { D with nx := N, ct := N, bk := D.nx } σ2 H2) := by
  refine ⟨fun i m σ H => m = xs.length - i ∧ i ≤ xs.length ∧ Pv i σ H, ⟨_, rfl, Nat.zero_le _, h0⟩, ?_⟩
  rintro i m σ H ⟨em, hi, p⟩
  have qx := hq i σ H p
  by_cases hlt : i < xs.length
  · refine .inr ⟨⟨qx, hlt⟩, Pv (i + 1), fun σ' H' p' => ⟨_, by omega, rfl, by omega, p'⟩, fun v H' yv => ?_⟩
    obtain ⟨T, x, rfl, hT, rfl, f1⟩ := yv
    exact hs i x T σ H f1 p hT
  · have ei : i = xs.length := by omega
    refine .inl ⟨⟨qx, ei⟩, hd σ H ?_⟩
    rw [← ei]
    exact p

/-! a name and a starred name: x, *rest = a list or a tuple -/
section
variable {prog : Program} {w : World} {A : Around} {E : Value → Shared → Prop} {s : Shared}
theorem star_items {t : Bool} {a : Addr} {items : Array Value} {Q : List Value → Shared → Prop} (hh : A.handled = none) (hl : IsB t s.heap a items) (h1 : 1 ≤ items.size) (hz : items.size ≤ 1000)
    (h : ∀ (g : Heap) (tk : Nat), (∀ b o, s.heap.get? b = some o → g.get? b = some o) → Q (items.toList.take 1 ++ [.ref g.objs.size] ++ []) { s with heap := g.push { cls := .type "list", data := .seq (items.toList.drop 1).toArray }, toks := tk }) :
    wpAny (model prog w) A (unpackItems (.ref a) 2 (some 1)) Q E s := by
  have la : a < s.heap.objs.size := hl.lt
  have zl : items.size ≤ sizeLine := Nat.le_trans hz (by decide)
  have len : (items.toList.drop 1).length = items.size - 1 := by rw [List.length_drop, Array.length_toList]
  have last : ∀ (g : Heap) (tk : Nat), (∀ b o, b ≠ s.heap.objs.size → s.heap.get? b = some o → g.get? b = some o) →
      wpAny (model prog w) A (if (items.toList.drop 1).length < 2 - 1 - 1 then (do rule "unpack.star.too-few"; raiseError "ValueError" s!"not enough values to unpack (expected at least {2 - 1}, got {1 + (items.toList.drop 1).length})") else
        (do let d ← newList ((items.toList.drop 1).take ((items.toList.drop 1).length - (2 - 1 - 1))); pure (items.toList.take 1 ++ [d] ++ (items.toList.drop 1).drop ((items.toList.drop 1).length - (2 - 1 - 1))))) Q E { s with heap := g, toks := tk } := fun g tk kp => by
    rw [if_neg (by omega)]
    have e1 : (items.toList.drop 1).take ((items.toList.drop 1).length - (2 - 1 - 1)) = items.toList.drop 1 := List.take_of_length_le (by omega)
    have e2 : (items.toList.drop 1).drop ((items.toList.drop 1).length - (2 - 1 - 1)) = [] := List.drop_of_length_le (by omega)
    rw [e1, e2]
    refine wpAny_bind (wpAny_newList (wpAny_pure (h g tk fun b o e => kp b o (Nat.ne_of_lt (Heap.lt_size e)) e)) (by omega))
  unfold unpackItems
  refine wpAny_bind ?_
  unfold notIterableAtAll
  cases t with
  | false =>
    have hl : s.heap.IsList a items := hl
    refine wpAny_bind (wpAny_specialOf hl.typeIs slot_list_iter.lookup ?_)
    refine wpAny_pure ?_
    simp only [Bool.false_eq_true, if_false]
    refine wpAny_bind (wpAny_holding (wpAny_pyIter_list hl ?_))
    refine wpAny_bind (wpAny_holding (PySem.W.kun_draw (Nat.ne_of_lt la) 1 0 _ _ ⟨_, Heap.get?_push_size _ rfl, rfl, rfl⟩ (hl.push _) (by omega) fun g1 it1 sb1 => ?_))
    have hl1 : g1.IsList a items := (hl.push _).extBut sb1.extBut (Nat.ne_of_lt la)
    rw [List.drop_zero]
    have fl : (items.toList.take 1).length = 1 := by rw [List.length_take, Array.length_toList]; omega
    rw [if_neg (show ¬ ((items.toList.take 1).length < 1) by omega)]
    have li : s.heap.objs.size < g1.objs.size := by obtain ⟨_, e, _⟩ := it1; exact Heap.lt_size e
    have lt1 : a < g1.objs.size := by obtain ⟨_, e, _⟩ := hl1; exact Heap.lt_size e
    refine wpAny_bind (wpAny_holding (PySem.W.kun_collect (s := { s with heap := g1 }) (T := "list_iterator") (.inr (.inr (.inl rfl))) (Walks.list (A := A.in1) hh s.heap.objs.size a (Nat.ne_of_lt la) items) (fun j u st => st.1.typeIs) (k := 1) h1 ⟨it1, hl1⟩ li lt1 (fun g2 tk kp => ?_) zl))
    exact last g2 tk fun b o nb e => kp b o nb (sb1.extBut b o nb (Heap.get?_push_of_some _ e))
  | true =>
    have hl : IsTup s.heap a items := hl
    refine wpAny_bind (wpAny_specialOf hl.typeIs slot_tuple_iter.lookup ?_)
    refine wpAny_pure ?_
    simp only [Bool.false_eq_true, if_false]
    refine wpAny_bind (wpAny_holding (iter_tuple hl ?_))
    refine wpAny_bind (wpAny_holding (draw_tuple (Nat.ne_of_lt la) 1 0 _ _ ⟨_, Heap.get?_push_size _ rfl, rfl, rfl⟩ (hl.push _) (by omega) fun g1 it1 sb1 => ?_))
    have hl1 : IsTup g1 a items := (hl.push _).extBut sb1.extBut (Nat.ne_of_lt la)
    rw [List.drop_zero]
    have fl : (items.toList.take 1).length = 1 := by rw [List.length_take, Array.length_toList]; omega
    rw [if_neg (show ¬ ((items.toList.take 1).length < 1) by omega)]
    have li : s.heap.objs.size < g1.objs.size := by obtain ⟨_, e, _⟩ := it1; exact Heap.lt_size e
    have lt1 : a < g1.objs.size := by obtain ⟨_, e, _⟩ := hl1; exact Heap.lt_size e
    refine wpAny_bind (wpAny_holding (PySem.W.kun_collect (s := { s with heap := g1 }) (T := "tuple_iterator") (.inr (.inr (.inr rfl))) (Walks.tuple (A := A.in1) hh s.heap.objs.size a (Nat.ne_of_lt la) items) (fun j u st => st.1.typeIs) (k := 1) h1 ⟨it1, hl1⟩ li lt1 (fun g2 tk kp => ?_) zl))
    exact last g2 tk fun b o nb e => kp b o nb (sb1.extBut b o nb (Heap.get?_push_of_some _ e))
end
def gStar (K : PySem.W.Frag) (g : TGs) : TG := fun v σ H Q => ∃ t a x xs, v = .ref a ∧ SqB t K H a (x :: xs) ∧ xs.length < 1000 ∧ ∀ D, H D = none → g [x, .ref D] σ (upd H D (.lst xs)) Q
theorem pg_star {X : Cx} {e1 e2 : Expr} {k : Nat} {pos p2 : Pos} {g : TGs} (hc : X.calm = true) (h : PGs X [e1, e2] g)
    (ha : assignEach [e1, .Starred e2 p2] X.env = [(false, assign e1 X.env), (true, assign e2 X.env)] := by rfl)
    (hb : (assignEach [e1, e2] X.env).map (·.2) = [assign e1 X.env, assign e2 X.env] := by rfl) : PG X (.Tuple [e1, .Starred e2 p2] k pos) (gStar X.K g) := by
  refine ⟨fun pins s σ H v u Q I r hw => ?_⟩
  obtain ⟨t, a, x, xs, e, hq, hl, hw⟩ := hw
  subst e
  cases r
  obtain ⟨its, rv, hi, hz⟩ := seqB I hq
  have hlen := rv.length
  rw [List.length_cons] at hlen
  rw [assign_Tuple]
  refine wpAny_bind (wpAny_standAt ?_)
  unfold unpack
  rw [ha]
  refine wpAny_bind (wpAny_holding (star_items (I.ok.hd hc) hi (by simp; omega) (by simp; omega) fun g tk kp => ?_))
  cases rv with
  | @cons _ y _ ys r1 rr =>
    have I1 : Inv X pins σ H { s with heap := g, toks := tk } := I.kept kp
    have hf : H g.objs.size = none := I1.hok.fresh (Nat.le_refl _)
    have I2 : Inv X pins σ (upd H g.objs.size (.lst xs)) { s with heap := g.push { cls := .type "list", data := .seq ys.toArray }, toks := tk } :=
      I1.laid (t' := tk) (fun b o e => Heap.get?_push_of_some _ e) (Nat.le_refl _) ⟨Nat.le_trans (Nat.le_of_lt hl) (by decide), ys, 0, rr, Heap.get?_push_size _ rfl⟩
    have z := h.run pins _ σ _ [x, .ref g.objs.size] [y, .ref g.objs.size] Q I2 (.cons r1 (.cons rfl .nil)) (hw _ hf)
    rw [hb] at z
    exact z
end CfX

namespace CfX
open PySem PySem.Spec PyProof.Rows L2

/-! // of any size: by _pylong where CPython goes so -/
structure Seer (X : Cx) : Prop where
  base : X.base.NoSeer
  tree : X.prog.given.tree = none
  room : X.A.depth + Builtin.pylongFrames < recursionLimit
  stk : ∃ e l, X.stack = e :: l ∧ e.scope.isGenerator = false ∧ e.scope.isCoroutine = false ∧ e.builtins = builtinsNs ∧ e.globals = mainGlobals
section
variable {X : Cx} {pins : List (Addr × Obj)} {σ : L2.St} {H : Hp} {s : Shared}
theorem Seer.pyl (S : Seer X) (I : Inv X pins σ H s) : PylongRoom (model X.prog X.w) X.A s := by
  obtain ⟨e, l, es, h1, h2, h3, h4⟩ := S.stk
  exact PylongRoom.of I.nolimit S.room (SeerAt.of (S.base.keeps I.bk) S.tree (I.ok.frames.trans (congrArg some es)) h1 h2 h3 h4)
theorem op_fdivP (S : Seer X) : OpR X (binaryOp .FloorDiv) (rI (fun _ j => j ≠ 0) fun i j => .int (i.fdiv j)) := by
  intro pins s σ H x y v u Q I rx ry h
  obtain ⟨i, j, rfl, rfl, hc, q⟩ := h
  obtain ⟨t, rfl⟩ := rx
  obtain ⟨t', rfl⟩ := ry
  exact floordiv_int hc ⟨.int (i.fdiv j), H, I.tok _, ⟨_, rfl⟩, q⟩ (.inr (S.pyl I))
theorem ip_fdivP (S : Seer X) : PIp X .FloorDiv (rI (fun _ j => j ≠ 0) fun i j => .int (i.fdiv j)) := by
  intro pins s σ H x y v u Q I rx ry h
  obtain ⟨i, j, rfl, rfl, hc, q⟩ := h
  obtain ⟨t, rfl⟩ := rx
  obtain ⟨t', rfl⟩ := ry
  exact ifloordiv_int hc ⟨.int (i.fdiv j), H, I.tok _, ⟨_, rfl⟩, q⟩ (.inr (S.pyl I))
theorem ip_mulX : PIp X .Mult (rI CMulX fun i j => .int (i * j)) := by
  intro pins s σ H x y v u Q I rx ry h
  obtain ⟨i, j, rfl, rfl, hc, q⟩ := h
  obtain ⟨t, rfl⟩ := rx
  obtain ⟨t', rfl⟩ := ry
  exact imul_int ⟨.int (i * j), H, I.tok _, ⟨_, rfl⟩, q⟩ hc.ok

/-! xs[i] read for xs[i] op= e -/
def rGetL : V → V → Hp → VK → Prop := fun o i H Q => ∃ p xs k v, o = .ref p ∧ i = .int ((k : Nat) : Int) ∧ H p = some (.lst xs) ∧ xs[k]? = some v ∧ Q v H
theorem get_listN : PGet X rGetL := by
  intro pins s σ H o i ov iv Q I ro ri h
  obtain ⟨p, xs, k, v, rfl, rfl, hp, hk, q⟩ := h
  cases ro
  obtain ⟨t, rfl⟩ := ri
  obtain ⟨its, r, pl, hz⟩ := I.list (.inl (.inl hp))
  obtain ⟨u, eu, ru⟩ := r.get hk
  have lk : k < its.length := (List.getElem?_eq_some_iff.mp eu).1
  have hl := r.length
  have h63 : sizeLine < 9223372036854775807 := by decide
  refine wpAny_getItem_list pl.isList (k := (k : Int)) (x := u) (by omega) (by omega) (by simpa using eu) ⟨v, H, I, ru, q⟩
end
end CfX

namespace CfX
open PySem PySem.Spec PyProof.Rows L2
open PySem.W (dataLt minD dataLt_tuple dataLt_all_yes dataLt_all_no dataLt_int min_list_data alike_unique)

/-! min of a list of pairs of ints -/
def pairD (p : Int × Int) : PyData := .tuple [.int p.1, .int p.2]
def pairLt (p q : Int × Int) : Bool := decide (p.1 < q.1 ∨ (p.1 = q.1 ∧ p.2 < q.2))
theorem pairLt_data (p q : Int × Int) : dataLt (pairD p) (pairD q) = pairLt p q := by
  obtain ⟨a, b⟩ := p
  obtain ⟨c, d⟩ := q
  unfold pairD pairLt
  rw [dataLt_tuple]
  by_cases e : a = c
  · subst e
    rw [dataLt_all_yes (x := .int a) (y := .int a) (by rfl) (by simp [PyData.eqv])]
    by_cases e2 : b = d
    · subst e2
      rw [dataLt_all_yes (x := .int b) (y := .int b) (by rfl) (by simp [PyData.eqv])]
      simp
      rfl
    · rw [dataLt_all_no (x := .int b) (y := .int d) (by rfl) (by simpa [PyData.eqv] using e2), dataLt_int]
      simp
  · rw [dataLt_all_no (x := .int a) (y := .int c) (by rfl) (by simpa [PyData.eqv] using e), dataLt_int]
    simp [e]
def minP (p : Int × Int) (ps : List (Int × Int)) : Int × Int := ps.foldl (fun a y => if pairLt y a then y else a) p
theorem minP_data : ∀ (ps : List (Int × Int)) (p : Int × Int), minD (pairD p) (ps.map pairD) = pairD (minP p ps)
  | [], p => rfl
  | q :: ps, p => by
    unfold minD minP
    rw [List.map_cons, List.foldl_cons, List.foldl_cons, pairLt_data]
    have e : (if pairLt q p = true then pairD q else pairD p) = pairD (if pairLt q p = true then q else p) := by split <;> rfl
    rw [e]
    exact minP_data ps _
theorem pairD_inj {p q : Int × Int} (h : pairD p = pairD q) : p = q := by
  unfold pairD at h
  injection h with h
  injection h with h1 h2
  injection h2 with h2 _
  injection h1 with h1
  injection h2 with h2
  exact Prod.ext h1 h2
theorem pairLt_self (p : Int × Int) : pairLt p p = false := by unfold pairLt; simp
theorem minP_spec : ∀ (ps : List (Int × Int)) (p : Int × Int), (minP p ps = p ∨ minP p ps ∈ ps) ∧ pairLt p (minP p ps) = false ∧ ∀ q ∈ ps, pairLt q (minP p ps) = false
  | [], p => ⟨.inl rfl, pairLt_self p, fun _ h => nomatch h⟩
  | q :: ps, p => by
    have e : minP p (q :: ps) = minP (if pairLt q p then q else p) ps := rfl
    rw [e]
    by_cases h : pairLt q p = true
    · rw [if_pos h]
      obtain ⟨h1, h2, h3⟩ := minP_spec ps q
      refine ⟨.inr ?_, ?_, ?_⟩
      · rcases h1 with h1 | h1
        · rw [h1]; exact List.mem_cons_self
        · exact List.mem_cons_of_mem _ h1
      · unfold pairLt at *
        simp at *
        omega
      · intro z hz
        rcases List.mem_cons.mp hz with rfl | hz
        · exact h2
        · exact h3 z hz
    · have hf : pairLt q p = false := by simpa using h
      rw [if_neg h]
      obtain ⟨h1, h2, h3⟩ := minP_spec ps p
      refine ⟨?_, h2, ?_⟩
      · rcases h1 with h1 | h1
        · exact .inl h1
        · exact .inr (List.mem_cons_of_mem _ h1)
      · intro z hz
        rcases List.mem_cons.mp hz with rfl | hz
        · unfold pairLt at *
          simp at *
          omega
        · exact h3 z hz
section
variable {X : Cx}
/-- the item itself, at an address where a pair stands -/
def rMinP (K : PySem.W.Frag) : List V → Hp → VK → Prop := fun vs H Q => ∃ (a : Addr) (ts : List Addr) (p : Int × Int) (ps : List (Int × Int)), vs = [V.ref a] ∧ SqL K H a (ts.map V.ref) ∧
  Paired (fun (t : Addr) (q : Int × Int) => H t = some (.tup [.int q.1, .int q.2])) ts (p :: ps) ∧ ∀ T, H T = some (.tup [.int (minP p ps).1, .int (minP p ps).2]) → Q (.ref T) H
theorem pairs_read {pins : List (Addr × Obj)} {σ : L2.St} {H : Hp} {s : Shared} (I : Inv X pins σ H s) : ∀ {ts : List Addr} {ps : List (Int × Int)} {its : List Value}, Paired (fun (t : Addr) (q : Int × Int) => H t = some (.tup [.int q.1, .int q.2])) ts ps →
    Vals (ts.map V.ref) its → ∃ as, ReadsAll s.heap its (ps.map pairD) as
  | _, _, _, .nil, .nil => ⟨[], .nil⟩
  | _, _, _, .cons (a := t) (b := q) h r, v => by
    cases v with
    | cons e v =>
      cases e
      obtain ⟨as, ra⟩ := pairs_read I r v
      obtain ⟨its, rv, ⟨o, ho, hc, n, hd⟩, _⟩ := I.tuple (.inl (.inl h))
      cases rv with
      | cons r1 rv =>
        cases rv with
        | cons r2 rv =>
          cases rv
          obtain ⟨t1, rfl⟩ := r1
          obtain ⟨t2, rfl⟩ := r2
          exact ⟨_, .cons (.tuple ho hc hd (.cons (.int _ _) (.cons (.int _ _) .nil))) ra⟩
theorem depth_pairs : ∀ ps : List (Int × Int), PyData.depthAll (ps.map pairD) ≤ 3
  | [] => by decide
  | p :: ps => by
    have ih := depth_pairs ps
    rw [List.map_cons]
    unfold PyData.depthAll
    have : (pairD p).depth ≤ 2 := by
      unfold pairD
      simp [PyData.depth, PyData.depthAll]
    omega
theorem cr_minP (hc : X.calm = true) (hu : X.A.units + 10 < cLine) : CallR X (.builtin "min") (rMinP X.K) := by
  intro pins s σ H vs us Q I r h
  obtain ⟨a, ts, p, ps, rfl, hs, hp, q⟩ := h
  obtain ⟨its, rv, hl, _⟩ := I.list hs
  rw [Vals.ref1 r]
  obtain ⟨as, ra⟩ := pairs_read I hp rv
  refine min_list_data (I.ok.hd hc) hl.isList (x := pairD p) (xs := ps.map pairD) (by simpa using ra) ⟨?_, ?_⟩ ?_ fun i v h' tk bs hv rd hk => ?_
  · intro x hx y hy
    have hx : x ∈ (p :: ps).map pairD := hx
    have hy : y ∈ (p :: ps).map pairD := hy
    obtain ⟨x', _, rfl⟩ := List.mem_map.mp hx
    obtain ⟨y', _, rfl⟩ := List.mem_map.mp hy
    rfl
  · intro x hx
    have hx : x ∈ (p :: ps).map pairD := hx
    obtain ⟨x', _, rfl⟩ := List.mem_map.mp hx
    intro z
    cases z
  · have := depth_pairs (p :: ps)
    rw [List.map_cons] at this
    omega
  · have hv' : its[i]? = some v := by simpa using hv
    have hi : i < its.length := (List.getElem?_eq_some_iff.mp hv').1
    have hl2 := rv.length
    rw [List.length_map] at hl2
    obtain ⟨T, hT⟩ : ∃ T, ts[i]? = some T := ⟨ts[i], List.getElem?_eq_getElem (by omega)⟩
    obtain ⟨z, hz, hTz⟩ := paired_get hp hT
    have hTv : (ts.map V.ref)[i]? = some (.ref T) := by rw [List.getElem?_map, hT]; rfl
    obtain ⟨v', e1, e2⟩ := rv.get hTv
    have e3 : v' = v := Option.some.inj (e1.symm.trans hv')
    subst e3
    cases e2
    rw [minP_data] at rd
    have I' : Inv X pins σ H { s with heap := h', toks := tk } := I.kept hk
    obtain ⟨its2, rv2, ⟨o, ho, hc2, n, hd⟩, _⟩ := I'.tuple (.inl (.inl hTz))
    have rd2 : Reads h' (.ref T) (pairD z) [] := by
      cases rv2 with
      | cons r1 rv2 =>
        cases rv2 with
        | cons r2 rv2 =>
          cases rv2
          obtain ⟨t1, rfl⟩ := r1
          obtain ⟨t2, rfl⟩ := r2
          exact .tuple ho hc2 hd (.cons (.int _ _) (.cons (.int _ _) .nil))
    have ez : pairD (minP p ps) = pairD z := alike_unique _ _ _ _ _ rfl rd rd2
    have ez := pairD_inj ez
    exact ⟨.ref T, H, I', rfl, q T (by rw [ez]; exact hTz)⟩
end

/-! xs[i:j:k] of a list of ints: some new list of ints -/
theorem pick_ints {ns : List Int} {its : List Value} (r : Vals (ns.map V.int) its) (l : List Nat) : ∃ ms : List Int, Vals (ms.map V.int) (l.filterMap (its.toArray[·]?)) := by
  induction l with
  | nil => exact ⟨[], .nil⟩
  | cons k l ih =>
    obtain ⟨ms, hm⟩ := ih
    cases e : its.toArray[k]? with
    | none =>
      rw [List.filterMap_cons_none e]
      exact ⟨ms, hm⟩
    | some v =>
      rw [List.filterMap_cons_some e]
      have e' : its[k]? = some v := by simpa using e
      have hk : k < its.length := (List.getElem?_eq_some_iff.mp e').1
      have hl := r.length
      rw [List.length_map] at hl
      have g : (ns.map V.int)[k]? = some (.int ns[k]) := by rw [List.getElem?_map, List.getElem?_eq_getElem (by omega)]; rfl
      obtain ⟨u, eu, ru⟩ := r.get g
      have eq : u = v := Option.some.inj (eu.symm.trans e')
      subst eq
      exact ⟨ns[k] :: ms, .cons ru hm⟩
def tStepI (K : PySem.W.Frag) (te : TE) (tl th ts : TO) : TE := fun σ H Q => te σ H fun x H1 => tl σ H1 fun lo H2 => th σ H2 fun hi H3 => ts σ H3 fun st H4 => ∃ (a : Addr) (ns : List Int), x = .ref a ∧ SqL K H4 a (ns.map V.int) ∧ st ≠ some 0 ∧ ∀ (p : Addr) (ms : List Int), H4 p = none → Q (.ref p) (upd H4 p (.lst (ms.map V.int)))
theorem pe_stepI {X : Cx} {e lo hi st : Expr} {te : TE} {tl th ts : TO} {p3 pos : Pos} (he : PE X e te) (hl : PO X (some lo) tl) (hh : PO X (some hi) th) (hs : PO X (some st) ts)
    (hsub : ∀ a b : Addr, subscripted (.Slice (some lo) (some hi) (some st) p3) false (.ref a) (.ref b) = operate [.ref a, .ref b] (getItem (.ref a) (.ref b)) := by intros; with_unfolding_all rfl) :
    PE X (.Subscript e (.Slice (some lo) (some hi) (some st) p3) pos) (tStepI X.K te tl th ts) := by
  refine ⟨fun pins s σ H Q I h => ?_⟩
  refine Subscript_ (thn (he.run pins s σ H _ I h) fun v s1 ⟨x, H1, I1, r1, q1⟩ => ?_)
  refine wpAny_Slice (thn (hl.run pins s1 σ H1 _ I1 q1) fun vl s2 ⟨l, H2, I2, pl, q2⟩ => ?_)
  refine thn (hh.run pins s2 σ H2 _ I2 q2) fun vu s3 ⟨u, H3, I3, pu, q3⟩ => ?_
  refine thn (hs.run pins s3 σ H3 _ I3 q3) fun vs s4 ⟨o, H4, I4, ps, q4⟩ => ?_
  obtain ⟨a, ns, ex, hx, h0, q⟩ := q4
  subst ex
  cases r1
  have I5 : Inv X pins σ H4 { s4 with heap := s4.heap.push { cls := .type "slice", data := .fields #[vl, vu, vs] } } := I4.kept (t' := s4.toks) fun b ob z => Heap.get?_push_of_some _ z
  obtain ⟨its, r, ht, hz⟩ := I5.list hx
  have hlen := r.length
  have hzi : its.toArray.size ≤ sizeLine := by rw [List.size_toArray, ← hlen]; exact hz
  refine tail_any (ops := [.ref a, .ref s4.heap.objs.size]) ht.isList.typeIs (PySem.slot_list_getitem.lookup) ?_ (hsub _ _)
  refine wpAny_getItem_list_slice ht.isList (Heap.IsSliceOf.new _ vl vu vs) pl pu ps h0 ?_ hzi
  obtain ⟨ms, hm⟩ := pick_ints r (sliceRange (sliceBounds l u o its.toArray.size).1 (sliceBounds l u o its.toArray.size).2.1 (sliceBounds l u o its.toArray.size).2.2)
  have lm := hm.length
  have lz : (ms.map V.int).length ≤ sizeLine := by
    rw [lm]
    have z := slicePick_size_le its.toArray l u o
    unfold slicePick at z
    rw [List.size_toArray] at z
    omega
  refine ⟨.ref _, _, I5.laid (t' := s4.toks) (o := .lst (ms.map V.int)) (fun b ob z => Heap.get?_push_of_some _ z) (Nat.le_refl _) ?_, rfl, q _ ms (I5.hok.fresh (Nat.le_refl _))⟩
  exact ⟨lz, _, 0, hm, Heap.get?_push_size _ rfl⟩
end CfX

namespace CfX
open PySem PySem.Spec PyProof.Rows L2
/-! name = {k: v for ..}, the name local: stored within the comprehension's frame -/
theorem ps_setDc {X : Cx} {i : Nat} {y : Str} {py : Pos} {kx vx tg iter : Expr} {ifs : List Expr} {scope : Scope} {own : List (Str × Nat)} {pos spos : Pos} {wi : TI} {g : TG} {tt : TT} {tk tv : TE} (hc : X.calm = true) (hN : X.N.Nodup) (hy : X.N[i]? = some y) (hyl : X.env.scope.names.lookup y = some .local)
    (hsw : swapsWith (.DictComp kx vx [⟨tg, iter, ifs, 0⟩] scope pos) (some (.Name y py)) spos.line X.env = pure true) (hi : PI X tg iter wi) (ok : BlkOk X.N X.env.scope scope own)
    (hg : ∀ (s : Shared) (H : Hp) (C : Addr) (cl : List (Str × Addr)) (fp : List Addr), PG (X.blk s H scope (compEnvC scope cl C X.env) fp) tg g) (ht : ∀ (s : Shared) (H : Hp) (C : Addr) (cl : List (Str × Addr)) (fp : List Addr), PTs (X.blk s H scope (compEnvC scope cl C X.env) fp) ifs tt)
    (hk : ∀ (s : Shared) (H : Hp) (C : Addr) (cl : List (Str × Addr)) (fp : List Addr), PE (X.blk s H scope (compEnvC scope cl C X.env) fp) kx tk)
    (he : ∀ (s : Shared) (H : Hp) (C : Addr) (cl : List (Str × Addr)) (fp : List Addr), PE (X.blk s H scope (compEnvC scope cl C X.env) fp) vx tv) (hs : ∀ x, foldedSetIterable iter X.env x = pure x := by intro _; rfl) :
    PS X (.Assign [.Name y py] (.DictComp kx vx [⟨tg, iter, ifs, 0⟩] scope pos) spos) (tAsg (tDc wi g tt tk tv (own.map (·.2))) (gName i)) := by
  refine ⟨fun pins st σ H D I hyp => ?_⟩
  rw [exec_Assign_Name_used _ _ _ _ hsw]
  refine wpAny_bind (wpAny_standAt (wpAny_bind ?_))
  show wpAny _ X.A (do let _ ← comprehension (.DictComp kx vx [⟨tg, iter, ifs, 0⟩] scope pos) scope X.env (firstIterPos [⟨tg, iter, ifs, 0⟩] pos) newDict false (eval iter X.env) (some (assign (.Name y py) X.env))) _ _ st
  have hyp : tDc wi g tt tk tv (own.map (·.2)) σ H (fun x H1 => gName i x σ H1 D.nx) := hyp
  refine wpAny_bind (thn (dc_core (Qf := fun _ s' => SP X pins D .next s') hc hN I hi ok hg ht hk he hs hyp fun L C s' m H' I' q hn fo => ?_) fun _ s' hq => wpAny_pure (wpAny_pure hq))
  show wpAny _ _ (assign (.Name y py) X.env (.ref L)) _ _ _
  refine wpAny_assign_Name (store_ok2 (v := V.ref L) I' hN hy (.inl hyl) rfl (fun s2 I2 ⟨a, sb, ha⟩ => ?_) (.inr hyl))
  obtain ⟨k0, k1, k2, k3, k4, k5⟩ := fo
  have haC : C ≠ a := by
    rcases ha with z | z
    · rw [z]; exact k1
    · exact fun e => k4 y a z e.symm
  refine ⟨m, hn.sameBut sb haC, fun h3 sb3 => ?_⟩
  exact ⟨_, H', I2.turned (t' := s2.toks) (fun b o hb e => (sb3.2 b hb).trans e) k0 k1 k3 k4 k5, q⟩
theorem sw_trueD {kx vx : Expr} {gs : List Comprehension} {scope : Scope} {pos py : Pos} {y : Str} {l : Nat} {env : Env} (hk : env.scope.kind = .function) (hy : env.scope.names.lookup y = some .local) (hl : (py.line == pos.line) = true)
    (ha : (scope.names.any fun (n, k) => n == y && (k == .local || k == .cell)) = false) : swapsWith (.DictComp kx vx gs scope pos) (some (.Name y py)) l env = pure true := by
  have e1 : env.kindOf y = some .local := hy
  have e2 : env.blockKind = .function := by unfold Env.blockKind; rw [hk]; rfl
  unfold swapsWith
  simp only [e2, e1, ha, Expr.pos, hl]
  rfl
theorem cmul_of {a b : Int} {A B : Nat} (ha : a.natAbs ≤ 2 ^ A) (hb : b.natAbs ≤ 2 ^ B) (h : A + B + 2 ≤ 134217728) : CMulX a b := by
  have e : ∀ n : Nat, 2 ^ n < 2 ^ (n + 1) := fun n => Nat.pow_lt_pow_right (by decide) (Nat.lt_succ_self n)
  exact mulx_ok (Nat.lt_of_le_of_lt ha (e A)) (Nat.lt_of_le_of_lt hb (e B)) (by omega)
end CfX

namespace CfW
open PySem PySem.Spec PyProof.Rows L2 CfX
/-! ### the text -/
def topS (i : Nat) : Stmt := PySem.Challenge.pw_countfold_k40_whole_base_or_rest.main.body.getD i (.Pass ⟨0, 0, 0, 0⟩)
abbrev sWhole : Stmt := topS 4
abbrev sAdded : Stmt := topS 6
abbrev sProduct : Stmt := topS 8
abbrev sCommon : Stmt := topS 9
abbrev sTurned : Stmt := topS 10
abbrev sWeighed : Stmt := topS 11
abbrev sRestBy : Stmt := topS 12
abbrev sSettled : Stmt := topS 13
abbrev sShows : Stmt := topS 14
abbrev sSpread : Stmt := topS 15
abbrev sTimes : Stmt := topS 16
abbrev sLwhole : Stmt := topS 18
abbrev sLpool : Stmt := topS 19
abbrev sLtake : Stmt := topS 20
abbrev sLfolded : Stmt := topS 21
abbrev sLnumber : Stmt := topS 22
abbrev sLdot : Stmt := topS 23
abbrev sLnumbers : Stmt := topS 24
abbrev sLbase : Stmt := topS 25
abbrev sLrest : Stmt := topS 26
abbrev sLcoefs : Stmt := topS 27
abbrev sLrows : Stmt := topS 28
abbrev sLsays : Stmt := topS 29
abbrev sLaw : Stmt := topS 30
theorem scProduct : FnScope ["one", "other", "a", "b"] ["one", "other"] (defScope sProduct) := ⟨rfl, rfl, rfl, by decide +kernel, rfl, by decide +kernel, by decide +kernel⟩
theorem scLdot : FnScope ["_law_one", "_law_other", "_law_a", "_law_b"] ["_law_one", "_law_other"] (defScope sLdot) := ⟨rfl, rfl, rfl, by decide +kernel, rfl, by decide +kernel, by decide +kernel⟩
theorem scCommon : FnScope ["one", "other"] ["one", "other"] (defScope sCommon) := ⟨rfl, rfl, rfl, by decide +kernel, rfl, by decide +kernel, by decide +kernel⟩

/-! ### heaps -/
theorem same_upd {H : Hp} {p : Addr} {o : HO} (h : H p = none) : Same H (upd H p o) := fun b x e => by
  rw [upd_ne (ne_of_none e h)]
  exact e
theorem same_trans {H H1 H2 : Hp} (a : Same H H1) (b : Same H1 H2) : Same H H2 := a.trans b
theorem same_seqT {K : PySem.W.Frag} {H H' : Hp} {a : Addr} {xs : List V} (e : Same H H') (h : SqT K H a xs) : SqT K H' a xs := by
  rcases h with (h | ⟨o, h⟩) | h
  · exact .inl (.inl (e _ _ h))
  · exact .inl (.inr ⟨o, e _ _ h⟩)
  · exact .inr h
theorem same_B {K : PySem.W.Frag} {H H' : Hp} {t : Bool} {a : Addr} {xs : List V} (e : Same H H') (h : SqB t K H a xs) : SqB t K H' a xs := by
  cases t
  · exact e.seq h
  · exact same_seqT e h
/-- a new object of ours changed: what stood before it stays -/
theorem same_own {H H1 : Hp} {D : Addr} {o : HO} (s : Same H H1) (hD : H D = none) : Same H (upd H1 D o) := fun b x e => by
  rw [upd_ne (ne_of_none e hD)]
  exact s _ _ e

end CfW

namespace CfW
open PySem PySem.Spec PyProof.Rows L2 CfX
/-! ### what an iterator hands out, where all that stood at H1 stays -/
structure GoesBy (J : It) (H1 : Hp) (n : Nat) (Item : Nat → V → Hp → Prop) : Prop where
  go : ∀ i H, i < n → Same H1 H → J.go i H
  stop : ∀ H, Same H1 H → J.stop n H
  yld : ∀ i H v H', i < n → Same H1 H → J.yld i H v H' → Same H H' ∧ Item i v H'
section
variable {K : PySem.W.Frag} {H1 : Hp}
theorem goes_list {a : Addr} {xs : List V} (h : SqL K H1 a xs) : GoesBy (Itl K a) H1 xs.length fun i v _ => xs[i]? = some v where
  go := fun i H hi s => ⟨xs, xs[i], s.seq h, List.getElem?_eq_getElem hi⟩
  stop := fun H s => ⟨xs, s.seq h, Nat.le_refl _⟩
  yld := fun i H v H' _ s y => by
    obtain ⟨rfl, f⟩ := y
    exact ⟨Same.refl _, f xs (s.seq h)⟩
theorem goes_tup {a : Addr} {xs : List V} (h : SqT K H1 a xs) : GoesBy (Itt K a) H1 xs.length fun i v _ => xs[i]? = some v where
  go := fun i H hi s => ⟨xs, xs[i], same_seqT s h, List.getElem?_eq_getElem hi⟩
  stop := fun H s => ⟨xs, same_seqT s h, Nat.le_refl _⟩
  yld := fun i H v H' _ s y => by
    obtain ⟨rfl, f⟩ := y
    exact ⟨Same.refl _, f xs (same_seqT s h)⟩
theorem goes_range (H1 : Hp) (lo : Int) (n : Nat) : GoesBy (Itr lo n) H1 n fun i v _ => v = .int (lo + i) where
  go := fun i H hi s => hi
  stop := fun H s => Nat.le_refl _
  yld := fun i H v H' _ s y => by
    obtain ⟨rfl, rfl⟩ := y
    exact ⟨Same.refl _, rfl⟩
theorem goes_zip {t u : Bool} {a b : Addr} {xs ys : List V} (h1 : SqB t K H1 a xs) (h2 : SqB u K H1 b ys) : GoesBy (ItZ K t u a b xs ys) H1 (min xs.length ys.length) fun i v H' => ∃ T x y, v = .ref T ∧ H' T = some (.tup [x, y]) ∧ xs[i]? = some x ∧ ys[i]? = some y where
  go := fun i H hi s => ⟨same_B s h1, same_B s h2, by omega, by omega⟩
  stop := fun H s => ⟨same_B s h1, same_B s h2, rfl⟩
  yld := fun i H v H' _ s y => by
    obtain ⟨T, x, y, rfl, hT, rfl, e1, e2⟩ := y
    exact ⟨same_upd hT, T, x, y, rfl, upd_same, e1, e2⟩
theorem goes_enum {t : Bool} {a : Addr} {xs : List V} (h1 : SqB t K H1 a xs) : GoesBy (ItE K t a xs) H1 xs.length fun i v H' => ∃ T x, v = .ref T ∧ H' T = some (.tup [.int (i : Nat), x]) ∧ xs[i]? = some x where
  go := fun i H hi s => ⟨same_B s h1, hi⟩
  stop := fun H s => ⟨same_B s h1, rfl⟩
  yld := fun i H v H' _ s y => by
    obtain ⟨T, x, rfl, hT, rfl, e1⟩ := y
    exact ⟨same_upd hT, T, x, rfl, upd_same, e1⟩
theorem goes_items {d : Addr} {o : Obj} {kvs : List (Key × V)} (h : H1 d = some (.frz o (.dK kvs))) : GoesBy (Iti d o kvs) H1 kvs.length fun i v H' => ∃ T k x, v = .ref T ∧ H' T = some (.tup [kV k, x]) ∧ kvs[i]? = some (k, x) where
  go := fun i H hi s => ⟨s _ _ h, hi⟩
  stop := fun H s => ⟨s _ _ h, Nat.le_refl _⟩
  yld := fun i H v H' _ s y => by
    obtain ⟨T, k, x, e1, rfl, hT, rfl⟩ := y
    exact ⟨same_upd hT, T, k, x, rfl, upd_same, e1⟩
end
/-- all but the new thing at D -/
def But (D : Addr) (H H' : Hp) : Prop := ∀ b o, b ≠ D → H b = some o → H' b = some o
theorem But.of {D : Addr} {H H' : Hp} (s : Same H H') : But D H H' := fun b o _ e => s b o e
theorem But.upd {D : Addr} {H : Hp} {o : HO} : But D H (upd H D o) := fun b x ne e => by rw [upd_ne ne]; exact e
/-- a new list, item by item -/
theorem lc_by {J : It} {H1 : Hp} {n : Nat} {Item : Nat → V → Hp → Prop} (G : GoesBy J H1 n Item) {g : TG} {te : TE} {vs : List Nat} {σ : L2.St} {D : Addr} {Qd : Hp → Prop} (hD : H1 D = none) (hn : n ≤ 1000) (Rz : Nat → V → Hp → Prop)
    (stable : ∀ i z H H', But D H H' → Rz i z H → Rz i z H')
    (hs : ∀ i v H3, i < n → Same H1 H3 → (∃ acc, H3 D = some (.lst acc)) → Item i v H3 → ∀ post : VK, (∀ z H5, Same H3 H5 → Rz i z H5 → post z H5) → g v (wipe σ vs) H3 fun σ2 H4 => wipe σ2 vs = wipe σ vs ∧ te σ2 H4 post)
    (hd : ∀ H2 zs, Same H1 H2 → H2 D = some (.lst zs) → zs.length = n → (∀ i z, zs[i]? = some z → Rz i z H2) → Qd H2) :
    ∃ W : Nat → Nat → Hp → Prop, (∃ m, W 0 m (upd H1 D (.lst []))) ∧ ∀ i m H, W i m H →
      (J.stop i H ∧ Qd H) ∨ (J.go i H ∧ ∃ Nx : Hp → Prop, (∀ H', Nx H' → ∃ m', m' < m ∧ W (i + 1) m' H') ∧ ∀ x H', J.yld i H x H' → g x (wipe σ vs) H' fun σ2 H2 => wipe σ2 vs = wipe σ vs ∧ tYes σ2 H2 fun k H3 =>
        if k = true then te σ2 H3 fun y H4 => ∃ acc, H4 D = some (.lst acc) ∧ acc.length < sizeLine ∧ Nx (upd H4 D (.lst (acc ++ [y]))) else Nx H3) := by
  refine ⟨fun i m H => m = n - i ∧ i ≤ n ∧ Same H1 H ∧ ∃ zs, H D = some (.lst zs) ∧ zs.length = i ∧ ∀ j z, zs[j]? = some z → Rz j z H, ⟨n, rfl, Nat.zero_le _, same_upd hD, [], upd_same, rfl, fun j z h => by simp at h⟩, ?_⟩
  rintro i m H ⟨em, hi, s, zs, eD, lz, rz⟩
  by_cases hlt : i < n
  · refine .inr ⟨G.go i H hlt s, fun H' => Same H1 H' ∧ ∃ zs, H' D = some (.lst zs) ∧ zs.length = i + 1 ∧ ∀ j z, zs[j]? = some z → Rz j z H', fun H' h => ⟨n - (i + 1), by omega, rfl, hlt, h⟩, fun v H' y => ?_⟩
    obtain ⟨s2, it⟩ := G.yld i H v H' hlt s y
    refine hs i v H' hlt (s.trans s2) ⟨zs, s2 _ _ eD⟩ it _ fun z H5 s3 rzz => ?_
    have e5 : H5 D = some (.lst zs) := s3 _ _ (s2 _ _ eD)
    refine ⟨zs, e5, Nat.lt_of_le_of_lt (by omega) (small1000 hn), ?_, zs ++ [z], upd_same, by rw [List.length_append, lz]; rfl, fun j y hj => ?_⟩
    · exact same_own ((s.trans s2).trans s3) hD
    · rcases Nat.lt_or_ge j zs.length with hjl | hjl
      · rw [List.getElem?_append_left hjl] at hj
        exact stable j y _ _ But.upd (stable j y _ _ (But.of (s2.trans s3)) (rz j y hj))
      · rw [List.getElem?_append_right hjl] at hj
        have ej : j = i := by
          rcases Nat.eq_zero_or_pos (j - zs.length) with q | q
          · omega
          · rw [List.getElem?_eq_none (by rw [List.length_singleton]; omega)] at hj
            cases hj
        subst ej
        rw [lz, Nat.sub_self] at hj
        cases hj
        exact stable _ _ _ _ But.upd rzz
  · have ei : i = n := by omega
    subst ei
    exact .inl ⟨G.stop H s, hd H zs s eD lz rz⟩
/-- .. of ints -/
theorem ints_of {f : Nat → Int} {n : Nat} {zs : List V} (hl : zs.length = n) (h : ∀ (i : Nat) (z : V), zs[i]? = some z → z = .int (f i)) : zs = ((List.range n).map f).map V.int := by
  apply List.ext_getElem? fun i => ?_
  by_cases hi : i < n
  · have e := List.getElem?_eq_getElem (show i < zs.length by omega)
    rw [e, h i _ e, List.getElem?_map, List.getElem?_map, List.getElem?_range hi]
    rfl
  · rw [List.getElem?_eq_none (by omega), List.getElem?_eq_none (by simp; omega)]
theorem map_int_at {ns : List Int} {i : Nat} {v : V} (h : (ns.map V.int)[i]? = some v) : ∃ x, ns[i]? = some x ∧ v = .int x := by
  rw [List.getElem?_map] at h
  cases e : ns[i]? with
  | none => rw [e] at h; cases h
  | some x => rw [e] at h; cases h; exact ⟨x, rfl, rfl⟩
/-- two lists of ints place by place -/
theorem lc_zipI {K : PySem.W.Frag} {t u : Bool} {a b : Addr} {xs ys : List Int} {te : TE} {vs : List Nat} {σ : L2.St} {H1 : Hp} {D : Addr} {Qd : Hp → Prop} {i j : Nat} (f : Int → Int → Int) (hA : SqB t K H1 a (xs.map V.int)) (hB : SqB u K H1 b (ys.map V.int)) (hl : xs.length ≤ 1000) (hD : H1 D = none)
    (hw : ∀ x y : V, wipe (((wipe σ vs).set i (some x)).set j (some y)) vs = wipe σ vs)
    (hs : ∀ (n : Nat) (x y : Int) (H3 : Hp) (post : VK), xs[n]? = some x → ys[n]? = some y → Same H1 H3 → post (.int (f x y)) H3 → te (((wipe σ vs).set i (some (.int x))).set j (some (.int y))) H3 post)
    (hd : ∀ H2, Same H1 H2 → H2 D = some (.lst ((List.zipWith f xs ys).map V.int)) → Qd H2) :
    ∃ W : Nat → Nat → Hp → Prop, (∃ m, W 0 m (upd H1 D (.lst []))) ∧ ∀ n m H, W n m H →
      ((ItZ K t u a b (xs.map V.int) (ys.map V.int)).stop n H ∧ Qd H) ∨ ((ItZ K t u a b (xs.map V.int) (ys.map V.int)).go n H ∧ ∃ Nx : Hp → Prop, (∀ H', Nx H' → ∃ m', m' < m ∧ W (n + 1) m' H') ∧ ∀ x H', (ItZ K t u a b (xs.map V.int) (ys.map V.int)).yld n H x H' → gTup K 2 (gCons (gName i) (gCons (gName j) gNil)) x (wipe σ vs) H' fun σ2 H2 => wipe σ2 vs = wipe σ vs ∧ tYes σ2 H2 fun k H3 =>
        if k = true then te σ2 H3 fun y H4 => ∃ acc, H4 D = some (.lst acc) ∧ acc.length < sizeLine ∧ Nx (upd H4 D (.lst (acc ++ [y]))) else Nx H3) := by
  refine lc_by (goes_zip hA hB) hD (by simp; omega) (fun n z _ => ∃ x y, xs[n]? = some x ∧ ys[n]? = some y ∧ z = .int (f x y)) (fun _ _ _ _ _ h => h) (fun n v H3 hn s _ it post hp => ?_) (fun H2 zs s e hl2 hz => hd H2 s ?_)
  · obtain ⟨T, x, y, rfl, eT, e1, e2⟩ := it
    obtain ⟨x', f1, rfl⟩ := map_int_at e1
    obtain ⟨y', f2, rfl⟩ := map_int_at e2
    refine ⟨T, _, rfl, .inl (.inl eT), rfl, _, _, rfl, _, _, rfl, rfl, hw _ _, hs n x' y' H3 post f1 f2 s (hp _ _ (Same.refl _) ⟨x', y', f1, f2, rfl⟩)⟩
  · rw [e]
    congr 2
    apply List.ext_getElem? fun n => ?_
    rw [List.getElem?_map, List.getElem?_zipWith]
    cases ez : zs[n]? with
    | some z =>
      obtain ⟨x, y, f1, f2, rfl⟩ := hz n z ez
      rw [f1, f2]
      rfl
    | none =>
      have hn := List.getElem?_eq_none_iff.mp ez
      rw [hl2, List.length_map, List.length_map] at hn
      rcases Nat.lt_or_ge n xs.length with q | q
      · rw [List.getElem?_eq_none (show ys.length ≤ n by omega)]
        cases xs[n]? <;> rfl
      · rw [List.getElem?_eq_none q]
        rfl
/-- a list of ints, item by item -/
theorem lc_mapI {J : It} {xs : List Int} {te : TE} {vs : List Nat} {σ : L2.St} {H1 : Hp} (G : GoesBy J H1 (xs.map V.int).length fun i v _ => (xs.map V.int)[i]? = some v) {D : Addr} {Qd : Hp → Prop} {j : Nat} (f : Int → Int) (hl : xs.length ≤ 1000) (hD : H1 D = none)
    (hw : ∀ x : V, wipe ((wipe σ vs).set j (some x)) vs = wipe σ vs)
    (hs : ∀ (n : Nat) (x : Int) (H3 : Hp) (post : VK), xs[n]? = some x → Same H1 H3 → post (.int (f x)) H3 → te ((wipe σ vs).set j (some (.int x))) H3 post)
    (hd : ∀ H2, Same H1 H2 → H2 D = some (.lst ((xs.map f).map V.int)) → Qd H2) :
    ∃ W : Nat → Nat → Hp → Prop, (∃ m, W 0 m (upd H1 D (.lst []))) ∧ ∀ i m H, W i m H →
      (J.stop i H ∧ Qd H) ∨ (J.go i H ∧ ∃ Nx : Hp → Prop, (∀ H', Nx H' → ∃ m', m' < m ∧ W (i + 1) m' H') ∧ ∀ x H', J.yld i H x H' → gName j x (wipe σ vs) H' fun σ2 H2 => wipe σ2 vs = wipe σ vs ∧ tYes σ2 H2 fun k H3 =>
        if k = true then te σ2 H3 fun y H4 => ∃ acc, H4 D = some (.lst acc) ∧ acc.length < sizeLine ∧ Nx (upd H4 D (.lst (acc ++ [y]))) else Nx H3) := by
  refine lc_by G hD (by rw [List.length_map]; exact hl) (fun n z _ => ∃ x, xs[n]? = some x ∧ z = .int (f x)) (fun _ _ _ _ _ h => h) (fun n v H3 hn s _ it post hp => ?_) (fun H2 zs s e hl2 hz => hd H2 s ?_)
  · obtain ⟨x, e1, rfl⟩ := map_int_at it
    exact ⟨hw _, hs n x H3 post e1 s (hp _ _ (Same.refl _) ⟨x, e1, rfl⟩)⟩
  · rw [e]
    congr 2
    apply List.ext_getElem? fun n => ?_
    rw [List.getElem?_map, List.getElem?_map]
    cases ez : zs[n]? with
    | some z =>
      obtain ⟨x, f1, rfl⟩ := hz n z ez
      rw [f1]
      rfl
    | none =>
      have hn := List.getElem?_eq_none_iff.mp ez
      rw [hl2, List.length_map] at hn
      rw [List.getElem?_eq_none hn]
      rfl
/-- a range of ints, item by item -/
theorem lc_rangeI {n : Nat} {te : TE} {vs : List Nat} {σ : L2.St} {H1 : Hp} {D : Addr} {Qd : Hp → Prop} {j : Nat} (f : Nat → Int) (hl : n ≤ 1000) (hD : H1 D = none)
    (hw : ∀ x : V, wipe ((wipe σ vs).set j (some x)) vs = wipe σ vs)
    (hs : ∀ (i : Nat) (H3 : Hp) (post : VK), i < n → Same H1 H3 → post (.int (f i)) H3 → te ((wipe σ vs).set j (some (.int (0 + (i : Int))))) H3 post)
    (hd : ∀ H2, Same H1 H2 → H2 D = some (.lst (((List.range n).map f).map V.int)) → Qd H2) :
    ∃ W : Nat → Nat → Hp → Prop, (∃ m, W 0 m (upd H1 D (.lst []))) ∧ ∀ i m H, W i m H →
      ((Itr 0 n).stop i H ∧ Qd H) ∨ ((Itr 0 n).go i H ∧ ∃ Nx : Hp → Prop, (∀ H', Nx H' → ∃ m', m' < m ∧ W (i + 1) m' H') ∧ ∀ x H', (Itr 0 n).yld i H x H' → gName j x (wipe σ vs) H' fun σ2 H2 => wipe σ2 vs = wipe σ vs ∧ tYes σ2 H2 fun k H3 =>
        if k = true then te σ2 H3 fun y H4 => ∃ acc, H4 D = some (.lst acc) ∧ acc.length < sizeLine ∧ Nx (upd H4 D (.lst (acc ++ [y]))) else Nx H3) := by
  refine lc_by (goes_range H1 0 n) hD hl (fun i z _ => z = .int (f i)) (fun _ _ _ _ _ h => h) (fun i v H3 hn s _ it post hp => ?_) (fun H2 zs s e hl2 hz => hd H2 s ?_)
  · subst it
    exact ⟨hw _, hs i H3 post hn s (hp _ _ (Same.refl _) rfl)⟩
  · rw [e, ints_of hl2 hz]
/-- a new list of those that are kept -/
theorem lc_keep {J : It} {H1 : Hp} {n : Nat} {Item : Nat → V → Hp → Prop} (G : GoesBy J H1 n Item) {g : TG} {tt : TT} {te : TE} {vs : List Nat} {σ : L2.St} {D : Addr} {Qd : Hp → Prop} (hD : H1 D = none) (hn : n ≤ 1000) (keep : Nat → Bool) (Rz : Nat → V → Hp → Prop)
    (stable : ∀ i z H H', But D H H' → Rz i z H → Rz i z H')
    (hs : ∀ i v H3, i < n → Same H1 H3 → (∃ acc, H3 D = some (.lst acc)) → Item i v H3 → ∀ (post : VK) (non : Hp → Prop), (keep i = true → ∀ z H5, Same H3 H5 → Rz i z H5 → post z H5) → (keep i = false → ∀ H5, Same H3 H5 → non H5) →
      g v (wipe σ vs) H3 fun σ2 H4 => wipe σ2 vs = wipe σ vs ∧ tt σ2 H4 fun k H5 => if k = true then te σ2 H5 post else non H5)
    (hd : ∀ H2 zs, Same H1 H2 → H2 D = some (.lst zs) → Paired (fun i z => Rz i z H2) ((List.range n).filter keep) zs → Qd H2) :
    ∃ W : Nat → Nat → Hp → Prop, (∃ m, W 0 m (upd H1 D (.lst []))) ∧ ∀ i m H, W i m H →
      (J.stop i H ∧ Qd H) ∨ (J.go i H ∧ ∃ Nx : Hp → Prop, (∀ H', Nx H' → ∃ m', m' < m ∧ W (i + 1) m' H') ∧ ∀ x H', J.yld i H x H' → g x (wipe σ vs) H' fun σ2 H2 => wipe σ2 vs = wipe σ vs ∧ tt σ2 H2 fun k H3 =>
        if k = true then te σ2 H3 fun y H4 => ∃ acc, H4 D = some (.lst acc) ∧ acc.length < sizeLine ∧ Nx (upd H4 D (.lst (acc ++ [y]))) else Nx H3) := by
  have pm : ∀ {H H' : Hp} {l : List Nat} {zs : List V}, But D H H' → Paired (fun i z => Rz i z H) l zs → Paired (fun i z => Rz i z H') l zs := fun {H H' l zs} b p => Paired.mapP p fun i z h => stable i z H H' b h
  have pa : ∀ {R : Nat → V → Prop} {l : List Nat} {zs : List V} {i : Nat} {z : V}, Paired R l zs → R i z → Paired R (l ++ [i]) (zs ++ [z]) := by
    intro R l zs i z p h
    induction p with
    | nil => exact .cons h .nil
    | cons a _ ih => exact .cons a ih
  refine ⟨fun i m H => m = n - i ∧ i ≤ n ∧ Same H1 H ∧ ∃ zs, H D = some (.lst zs) ∧ zs.length ≤ i ∧ Paired (fun i z => Rz i z H) ((List.range i).filter keep) zs, ⟨n, rfl, Nat.zero_le _, same_upd hD, [], upd_same, Nat.le_refl _, .nil⟩, ?_⟩
  rintro i m H ⟨em, hi, s, zs, eD, lz, rz⟩
  by_cases hlt : i < n
  · refine .inr ⟨G.go i H hlt s, fun H' => Same H1 H' ∧ ∃ zs, H' D = some (.lst zs) ∧ zs.length ≤ i + 1 ∧ Paired (fun i z => Rz i z H') ((List.range (i + 1)).filter keep) zs, fun H' h => ⟨n - (i + 1), by omega, rfl, hlt, h⟩, fun v H' y => ?_⟩
    obtain ⟨s2, it⟩ := G.yld i H v H' hlt s y
    refine hs i v H' hlt (s.trans s2) ⟨zs, s2 _ _ eD⟩ it _ _ (fun hk z H5 s3 rzz => ?_) fun hk H5 s3 => ?_
    · have e5 : H5 D = some (.lst zs) := s3 _ _ (s2 _ _ eD)
      refine ⟨zs, e5, Nat.lt_of_le_of_lt (by omega) (small1000 hn), same_own ((s.trans s2).trans s3) hD, zs ++ [z], upd_same, by rw [List.length_append]; exact Nat.succ_le_succ lz, ?_⟩
      rw [List.range_succ, List.filter_append, show [i].filter keep = [i] by simp [hk]]
      exact pa (pm But.upd (pm (But.of (s2.trans s3)) rz)) (stable _ _ _ _ But.upd rzz)
    · refine ⟨(s.trans s2).trans s3, zs, s3 _ _ (s2 _ _ eD), by omega, ?_⟩
      rw [List.range_succ, List.filter_append, show [i].filter keep = [] by simp [hk], List.append_nil]
      exact pm (But.of (s2.trans s3)) rz
  · have ei : i = n := by omega
    subst ei
    exact .inl ⟨G.stop H s, hd H zs s eD rz⟩
/-- a new dict, its keys told beforehand, no two alike -/
theorem dc_by {J : It} {H1 : Hp} {n : Nat} {Item : Nat → V → Hp → Prop} (G : GoesBy J H1 n Item) {g : TG} {tk tv : TE} {vs : List Nat} {σ : L2.St} {D : Addr} {Qd : Hp → Prop} (hD : H1 D = none) (hn : n ≤ 1000) (kf : Nat → Key) (hk : ∀ i j, i < n → j < n → kf i = kf j → i = j) (Rz : Nat → V → Hp → Prop)
    (stable : ∀ i z H H', But D H H' → Rz i z H → Rz i z H')
    (hs : ∀ i v H3, i < n → Same H1 H3 → (∃ acc, H3 D = some (.dK acc)) → Item i v H3 → ∀ post : V → VK, (∀ z H5, Same H3 H5 → Rz i z H5 → post (kV (kf i)) z H5) → g v (wipe σ vs) H3 fun σ2 H4 => wipe σ2 vs = wipe σ vs ∧ tk σ2 H4 fun y H5 => tv σ2 H5 (post y))
    (hd : ∀ H2 kvs, Same H1 H2 → H2 D = some (.dK kvs) → kvs.length = n → (∀ i p, kvs[i]? = some p → p.1 = kf i ∧ Rz i p.2 H2) → Qd H2) :
    ∃ W : Nat → Nat → Hp → Prop, (∃ m, W 0 m (upd H1 D (.dK []))) ∧ ∀ i m H, W i m H →
      (J.stop i H ∧ Qd H) ∨ (J.go i H ∧ ∃ Nx : Hp → Prop, (∀ H', Nx H' → ∃ m', m' < m ∧ W (i + 1) m' H') ∧ ∀ x H', J.yld i H x H' → g x (wipe σ vs) H' fun σ2 H2 => wipe σ2 vs = wipe σ vs ∧ tYes σ2 H2 fun b H3 =>
        if b = true then tk σ2 H3 fun y H4 => tv σ2 H4 fun z H5 => ∃ kvs k, y = kV k ∧ H5 D = some (.dK kvs) ∧ kvs.length < sizeLine ∧ Nx (upd H5 D (.dK (putK kvs k z))) else Nx H3) := by
  refine ⟨fun i m H => m = n - i ∧ i ≤ n ∧ Same H1 H ∧ ∃ zs, H D = some (.dK zs) ∧ zs.length = i ∧ ∀ j p, zs[j]? = some p → p.1 = kf j ∧ Rz j p.2 H, ⟨n, rfl, Nat.zero_le _, same_upd hD, [], upd_same, rfl, fun j z h => by simp at h⟩, ?_⟩
  rintro i m H ⟨em, hi, s, zs, eD, lz, rz⟩
  by_cases hlt : i < n
  · refine .inr ⟨G.go i H hlt s, fun H' => Same H1 H' ∧ ∃ zs, H' D = some (.dK zs) ∧ zs.length = i + 1 ∧ ∀ j p, zs[j]? = some p → p.1 = kf j ∧ Rz j p.2 H', fun H' h => ⟨n - (i + 1), by omega, rfl, hlt, h⟩, fun v H' y => ?_⟩
    obtain ⟨s2, it⟩ := G.yld i H v H' hlt s y
    refine hs i v H' hlt (s.trans s2) ⟨zs, s2 _ _ eD⟩ it _ fun z H5 s3 rzz => ?_
    have e5 : H5 D = some (.dK zs) := s3 _ _ (s2 _ _ eD)
    have new : putK zs (kf i) z = zs ++ [(kf i, z)] := by
      unfold putK
      rw [if_neg]
      intro h
      obtain ⟨p, hp, e⟩ := List.any_eq_true.mp h
      obtain ⟨j, hj, ej⟩ := List.mem_iff_getElem.mp hp
      have e1 := (rz j p (by rw [List.getElem?_eq_getElem hj, ej])).1
      have e2 : p.1 = kf i := by simpa using e
      have := hk j i (by omega) hlt (e1.symm.trans e2)
      omega
    refine ⟨zs, kf i, rfl, e5, Nat.lt_of_le_of_lt (by omega) (small1000 hn), ?_, zs ++ [(kf i, z)], by rw [new]; exact upd_same, by rw [List.length_append, lz]; rfl, fun j y hj => ?_⟩
    · exact same_own ((s.trans s2).trans s3) hD
    · rcases Nat.lt_or_ge j zs.length with hjl | hjl
      · rw [List.getElem?_append_left hjl] at hj
        have := rz j y hj
        exact ⟨this.1, stable j y.2 _ _ But.upd (stable j y.2 _ _ (But.of (s2.trans s3)) this.2)⟩
      · rw [List.getElem?_append_right hjl] at hj
        have ej : j = i := by
          rcases Nat.eq_zero_or_pos (j - zs.length) with q | q
          · omega
          · rw [List.getElem?_eq_none (by rw [List.length_singleton]; omega)] at hj
            cases hj
        subst ej
        rw [lz, Nat.sub_self] at hj
        cases hj
        exact ⟨rfl, stable _ _ _ _ But.upd rzz⟩
  · have ei : i = n := by omega
    subst ei
    exact .inl ⟨G.stop H s, hd H zs s eD lz rz⟩
/-- a for over a reversed list -/
theorem for_rev {K : PySem.W.Frag} {a : Addr} {xs : List V} {g : TG} {tb : TS} {D : Ends} {σ : L2.St} {H : Hp} (Pv : Nat → L2.St → Hp → Prop) (h0 : Pv 0 σ H) (hl : ∀ i σ H, i ≤ xs.length → Pv i σ H → SqL K H a xs)
    (hs : ∀ i x σ H, xs.reverse[i]? = some x → Pv i σ H → g x σ H fun σ2 H2 => tb { D with nx := Pv (i + 1), ct := Pv (i + 1), bk := D.nx } σ2 H2) (hd : ∀ σ H, Pv xs.length σ H → D.nx σ H) :
    ∃ W : Nat → Nat → L2.St → Hp → Prop, (∃ m, W 0 m σ H) ∧ ∀ i m σ H, W i m σ H →
      ((Itv K a xs.length).stop i H ∧ D.nx σ H) ∨ ((Itv K a xs.length).go i H ∧ ∃ N : L2.St → Hp → Prop, (∀ σ' H', N σ' H' → ∃ m', m' < m ∧ W (i + 1) m' σ' H') ∧ ∀ x H', (Itv K a xs.length).yld i H x H' → g x σ H' fun σ2 H2 => tb { D with nx := N, ct := N, bk := D.nx } σ2 H2) := by
  refine ⟨fun i m σ H => m = xs.length - i ∧ i ≤ xs.length ∧ Pv i σ H, ⟨_, rfl, Nat.zero_le _, h0⟩, ?_⟩
  rintro i m σ H ⟨em, hi, p⟩
  have q := hl i σ H hi p
  by_cases hlt : i < xs.length
  · have e : xs[xs.length - 1 - i]? = some xs[xs.length - 1 - i] := List.getElem?_eq_getElem (by omega)
    refine .inr ⟨⟨hlt, xs, _, q, e⟩, Pv (i + 1), fun σ' H' p' => ⟨_, by omega, rfl, by omega, p'⟩, fun v H' yv => ?_⟩
    obtain ⟨rfl, f⟩ := yv
    exact hs i v σ _ (by rw [List.getElem?_reverse hlt]; exact f xs q) p
  · have ei : i = xs.length := by omega
    refine .inl ⟨show xs.length ≤ i by omega, hd σ H ?_⟩
    rw [← ei]
    exact p
end CfW

namespace CfW
open PySem PySem.Spec PyProof.Rows L2 CfX
/-! ### the product of two rows -/
def spDot (K : PySem.W.Frag) : Sp := fun vs H Q _ => ∃ (t u : Bool) (a b : Addr) (xs ys : List Int), vs = [.ref a, .ref b] ∧ SqB t K H a (xs.map V.int) ∧ SqB u K H b (ys.map V.int) ∧ xs.length ≤ 1000 ∧ (∀ (i : Nat) (x y : Int), xs[i]? = some x → ys[i]? = some y → CMulX x y) ∧
  ∀ H', Same H H' → Q (.int (CfM.dot xs ys)) H'
section
variable {P : Program} {w : World} {K : PySem.W.Frag} {mg : Str → Option Value} {base : Heap}
theorem ok_product {f : Addr} {fd : FuncData} {k : Nat} (F : Fun K "product" "product" sProduct f fd) (ms : mg "sum" = none) (mz : mg "zip" = none) : FnOk P w K mg base CX0 (k + 1) f fd ["one", "other"] (spDot K) := by
  refine F.ok scProduct (fun vs H Q E h => ?_) (fun cdv A outer s H vs Q E hr h => ?_)
  · obtain ⟨_, _, _, _, _, _, rfl, _⟩ := h
    rfl
  · obtain ⟨t, u, a, b, xs, ys, rfl, hA, hB, hlen, hm, q⟩ := h
    refine ⟨_, pss_one (ps_ret (pe_callB (cr_sum rfl) (by rfl) ms (by decide +kernel) (pa_cons
      (pe_lc (own := [("a", 2), ("b", 3)]) (g := gTup K 2 (gCons (gName 2) (gCons (gName 3) gNil))) (tt := tYes) rfl scProduct.nd (pi_zipB (by rfl) mz (pa_cons (pv 0) (pa_cons (pv 1) pa_nil)))
        (blkOk_by (N := ["one", "other", "a", "b"]) (sc := defScope sProduct) (by decide +kernel))
        (fun _ _ _ _ _ => pg_tup rfl (pgs_cons (pg_name (i := 2) scProduct.nd rfl (Or.inl rfl)) (pgs_cons (pg_name (i := 3) scProduct.nd rfl (Or.inl rfl)) pgs_nil))) (fun _ _ _ _ _ => pts_nil)
        (fun _ _ _ _ _ => pe_op op_mulX (pv 2) (pv 3))) pa_nil))), ?_⟩
    refine ⟨.ref a, rfl, .ref b, rfl, t, u, a, b, _, _, rfl, hA, hB, fun D hD => ?_⟩
    refine lc_zipI (fun x y => x * y) hA hB hlen hD (fun _ _ => rfl) (fun n x y H3 post e1 e2 s hp => ?_) (fun H2 s e => ?_)
    · exact ⟨_, rfl, _, rfl, x, y, rfl, rfl, hm n x y e1 e2, hp⟩
    · exact ⟨D, _, rfl, .inl (.inl e), q H2 s⟩
theorem ok_ldot {f : Addr} {fd : FuncData} {k : Nat} (F : Fun K "_law_dot" "_law_dot" sLdot f fd) (ms : mg "sum" = none) (mz : mg "zip" = none) : FnOk P w K mg base CX0 (k + 1) f fd ["_law_one", "_law_other"] (spDot K) := by
  refine F.ok scLdot (fun vs H Q E h => ?_) (fun cdv A outer s H vs Q E hr h => ?_)
  · obtain ⟨_, _, _, _, _, _, rfl, _⟩ := h
    rfl
  · obtain ⟨t, u, a, b, xs, ys, rfl, hA, hB, hlen, hm, q⟩ := h
    refine ⟨_, pss_one (ps_ret (pe_callB (cr_sum rfl) (by rfl) ms (by decide +kernel) (pa_cons
      (pe_lc (own := [("_law_a", 2), ("_law_b", 3)]) (g := gTup K 2 (gCons (gName 2) (gCons (gName 3) gNil))) (tt := tYes) rfl scLdot.nd (pi_zipB (by rfl) mz (pa_cons (pv 0) (pa_cons (pv 1) pa_nil)))
        (blkOk_by (N := ["_law_one", "_law_other", "_law_a", "_law_b"]) (sc := defScope sLdot) (by decide +kernel))
        (fun _ _ _ _ _ => pg_tup rfl (pgs_cons (pg_name (i := 2) scLdot.nd rfl (Or.inl rfl)) (pgs_cons (pg_name (i := 3) scLdot.nd rfl (Or.inl rfl)) pgs_nil))) (fun _ _ _ _ _ => pts_nil)
        (fun _ _ _ _ _ => pe_op op_mulX (pv 2) (pv 3))) pa_nil))), ?_⟩
    refine ⟨.ref a, rfl, .ref b, rfl, t, u, a, b, _, _, rfl, hA, hB, fun D hD => ?_⟩
    refine lc_zipI (fun x y => x * y) hA hB hlen hD (fun _ _ => rfl) (fun n x y H3 post e1 e2 s hp => ?_) (fun H2 s e => ?_)
    · exact ⟨_, rfl, _, rfl, x, y, rfl, rfl, hm n x y e1 e2, hp⟩
    · exact ⟨D, _, rfl, .inl (.inl e), q H2 s⟩

/-! ### the greatest common divisor -/
def spCommon : Sp := fun vs H Q _ => ∃ x y : Int, vs = [.int x, .int y] ∧ 0 ≤ x ∧ 0 ≤ y ∧ Q (.int ((Nat.gcd x.natAbs y.natAbs : Nat) : Int)) H
theorem ok_common {f : Addr} {fd : FuncData} {k : Nat} (F : Fun K "common" "common" sCommon f fd) : FnOk P w K mg base CX0 (k + 1) f fd ["one", "other"] spCommon := by
  refine F.ok scCommon (fun vs H Q E h => ?_) (fun cdv A outer s H vs Q E hr h => ?_)
  · obtain ⟨_, _, rfl, _⟩ := h
    rfl
  · obtain ⟨x, y, rfl, hx, hy, q⟩ := h
    refine ⟨_, pss_cons (ps_while PassesOwn.never (pt_cmpR op_gt (pv 1) pe_int (nomark _)) (pss_one (ps_par (i := 0) (j := 1) (by rfl) scCommon.nd rfl rfl (by decide) rfl rfl (pa_cons (pv 1) (pa_cons (pe_op op_modN (pv 0) (pv 1)) pa_nil)) (by rfl)))) (pss_one (ps_ret (pv 0))), ?_⟩
    refine ⟨fun m σ H2 => H2 = H ∧ ∃ a b : Int, σ = [some (.int a), some (.int b)] ∧ 0 ≤ a ∧ 0 ≤ b ∧ m = b.natAbs ∧ Nat.gcd a.natAbs b.natAbs = Nat.gcd x.natAbs y.natAbs, ⟨_, rfl, x, y, rfl, hx, hy, rfl, rfl⟩, fun m σ H2 hW => ?_⟩
    obtain ⟨rfl, a, b, rfl, ha, hb, rfl, e⟩ := hW
    refine ⟨.int b, rfl, b, 0, rfl, rfl, _, rfl, ite2 (fun h => ?_) (fun h => ?_)⟩
    · have hb0 : 0 < b := of_decide_eq_true h
      refine ⟨fun σ' H' => H' = H2 ∧ σ' = [some (.int b), some (.int (a.fmod b))], fun σ' H' ⟨e1, e2⟩ => ?_, .int b, rfl, .int a, rfl, .int b, rfl, a, b, rfl, rfl, by omega, _, _, rfl, rfl, rfl⟩
      have em : a.fmod b = a % b := Int.fmod_eq_emod_of_nonneg _ hb
      have h1 := Int.emod_nonneg a (show b ≠ 0 by omega)
      have h2 := Int.emod_lt_of_pos a hb0
      refine ⟨(a.fmod b).natAbs, by rw [em]; omega, e1, b, a.fmod b, e2, hb, by rw [em]; exact h1, rfl, ?_⟩
      rw [← e, em]
      have ec : (a % b).natAbs = a.natAbs % b.natAbs := by
        obtain ⟨a', rfl⟩ := Int.eq_ofNat_of_zero_le ha
        obtain ⟨b', rfl⟩ := Int.eq_ofNat_of_zero_le hb
        rfl
      rw [ec, Nat.gcd_comm b.natAbs, ← Nat.gcd_rec, Nat.gcd_comm]
    · have hb0 : b = 0 := by
        have : ¬ (0 < b) := fun z => h (decide_eq_true z)
        omega
      subst hb0
      refine ⟨.int a, rfl, ?_⟩
      have e1 : Nat.gcd a.natAbs (0 : Int).natAbs = a.natAbs := Nat.gcd_zero_right _
      rw [← e, e1] at q
      rw [show ((a.natAbs : Nat) : Int) = a by omega] at q
      exact q
end
end CfW

namespace CfW
open PySem PySem.Spec PyProof.Rows L2 CfX
theorem scRestBy : FnScope ["weights", "d", "shared", "weight"] ["weights", "d"] (defScope sRestBy) := ⟨rfl, rfl, rfl, by decide +kernel, rfl, by decide +kernel, by decide +kernel⟩
/-! ### what settled tells, in memory -/
def RestAt (H : Hp) (p : Addr) (ws : List Int) (d : Int) : Prop := ∃ t, H p = some (.tup [.str "rest", .ref t, .int d]) ∧ H t = some (.tup (ws.map V.int))
def TupMat (H : Hp) (b : Addr) (M : List (List Int)) : Prop := ∃ ts : List Addr, H b = some (.tup (ts.map V.ref)) ∧ Paired (fun t (v : List Int) => H t = some (.tup (v.map V.int))) ts M
def BaseAt (H : Hp) (p : Addr) (point : List Int) (moves reads : List (List Int)) : Prop := ∃ a b c, H p = some (.tup [.str "base", .ref a, .ref b, .ref c]) ∧ H a = some (.tup (point.map V.int)) ∧ TupMat H b moves ∧ TupMat H c reads
theorem RestAt.same {H H' : Hp} {p : Addr} {ws : List Int} {d : Int} (s : Same H H') (h : RestAt H p ws d) : RestAt H' p ws d := by
  obtain ⟨t, a, b⟩ := h
  exact ⟨t, s _ _ a, s _ _ b⟩
theorem TupMat.same {H H' : Hp} {p : Addr} {M : List (List Int)} (s : Same H H') (h : TupMat H p M) : TupMat H' p M := by
  obtain ⟨ts, a, b⟩ := h
  exact ⟨ts, s _ _ a, Paired.mapP b fun _ _ z => s _ _ z⟩
theorem BaseAt.same {H H' : Hp} {p : Addr} {point : List Int} {moves reads : List (List Int)} (s : Same H H') (h : BaseAt H p point moves reads) : BaseAt H' p point moves reads := by
  obtain ⟨a, b, c, e, e1, e2, e3⟩ := h
  exact ⟨a, b, c, s _ _ e, s _ _ e1, e2.same s, e3.same s⟩
section
variable {P : Program} {w : World} {K : PySem.W.Frag} {mg : Str → Option Value} {base : Heap}
theorem room100 {k : Nat} {A : Around} (hr : Room k A) (hk : 40 ≤ k) : A.depth + Builtin.pylongFrames < recursionLimit := by
  have h := hr.dp
  have e : Builtin.pylongFrames = 100 := rfl
  rw [e]
  omega
def spRestBy (K : PySem.W.Frag) : Sp := fun vs H Q _ => ∃ (a : Addr) (ws : List Int) (d : Int), vs = [.ref a, .int d] ∧ SqL K H a (ws.map V.int) ∧ ws.length ≤ 1000 ∧ 0 < d ∧
  ∀ H' p, Same H H' → RestAt H' p (CfM.restM ws d).1 (CfM.restM ws d).2 → Q (.ref p) H'
theorem ok_rest_by {f fC : Addr} {fd fdC : FuncData} {k : Nat} (F : Fun K "rest_by" "rest_by" sRestBy f fd) (hk : 40 ≤ k) (sb : base.NoSeer) (tr : P.given.tree = none) (FC : FnOk P w K mg base CX0 k fC fdC ["one", "other"] spCommon) (kC : PySem.W.keepIn K (.ref fC) = true) (bC : Binds K fdC ["one", "other"] [])
    (gC : mg "common" = some (.ref fC)) (ma : mg "abs" = none) (mt : mg "tuple" = none) : FnOk P w K mg base CX0 (k + 1) f fd ["weights", "d"] (spRestBy K) := by
  refine F.ok scRestBy (fun vs H Q E h => ?_) (fun cdv A outer s H vs Q E hr h => ?_)
  · obtain ⟨_, _, _, rfl, _⟩ := h
    rfl
  · obtain ⟨a, ws, d, rfl, hA, hlen, hd, q⟩ := h
    have hpy := room100 hr hk
    refine ⟨_, pss_cons (ps_set (i := 2) scRestBy.nd rfl (.inr rfl) (pv 1))
      (pss_cons (ps_for PassesOwn.never rfl (pi_list (pv 0)) (pg_name (i := 3) scRestBy.nd rfl (Or.inl rfl)) (pss_one (ps_set (i := 2) scRestBy.nd rfl (.inr rfl) (pe_call FC hr (by rfl) gC kC bC .nil pass0 (pa_cons (pv 2) (pa_cons (pe_callB call_abs (by rfl) ma (by decide +kernel) (pa_cons (pv 3) pa_nil)) pa_nil))))))
      (pss_cons (ps_aug (i := 1) scRestBy.nd rfl (.inr rfl) (pv 2) (ip_fdivP ⟨sb, tr, hpy, ⟨_, _, rfl, rfl, rfl, rfl, rfl⟩⟩))
      (pss_one (ps_ret (pe_tup (pa_cons pe_str (pa_cons (pe_callTy call_tuple_of (by rfl) mt (by decide +kernel) (pa_cons
        (pe_lc (own := [("weight", 3)]) (g := gName 3) (tt := tYes) rfl scRestBy.nd (pi_list (pv 0)) (blkOk_by (N := ["weights", "d", "shared", "weight"]) (sc := defScope sRestBy) (by decide +kernel))
          (fun _ _ _ _ _ => pg_name (i := 3) scRestBy.nd rfl (Or.inl rfl)) (fun _ _ _ _ _ => pts_nil)
          (fun _ _ _ _ _ => pe_op op_modN (pe_op (op_fdivP ⟨sb, tr, hpy, ⟨_, _, rfl, rfl, rfl, rfl, rfl⟩⟩) (pv 3) (pv 2)) (pv 1))) pa_nil)) (pa_cons (pv 1) pa_nil)))))))), ?_⟩
    refine ⟨.int d, rfl, .ref a, rfl, a, rfl, ⟨_, hA⟩, ?_⟩
    refine for_list (xs := ws.map V.int) (fun i σ H2 => H2 = H ∧ ∃ y, σ = [some (.ref a), some (.int d), some (.int (CfM.shareM (ws.take i) d)), y]) ⟨rfl, none, rfl⟩ (fun i σ H2 _ h => by rw [h.1]; exact hA) (fun i v σ H2 hi h => ?_) (fun σ H2 h => ?_)
    · obtain ⟨rfl, y, rfl⟩ := h
      obtain ⟨x, ex, rfl⟩ := map_int_at hi
      have hs := (CfM.shareM_dvd (ws.take i) d hd).1
      refine ⟨_, rfl, .int x, rfl, x, rfl, CfM.shareM (ws.take i) d, if x < 0 then -x else x, rfl, by omega, by split <;> omega, rfl, some (.int x), ?_⟩
      have e1 : ws.take (i + 1) = ws.take i ++ [x] := by rw [List.take_add_one, ex]; rfl
      have e2 : (if x < 0 then -x else x).natAbs = x.natAbs := by split <;> omega
      rw [e1]
      unfold CfM.shareM
      rw [List.foldl_append, e2]
      rfl
    · obtain ⟨rfl, y, rfl⟩ := h
      rw [List.length_map, List.take_length]
      obtain ⟨hs, hdv, _⟩ := CfM.shareM_dvd ws d hd
      have hpos : 0 < d.fdiv (CfM.shareM ws d) := CfM.fdiv_pos_dvd hd hs hdv
      have q' := fun H' p (s : Same H2 H') h => q H' p s h
      unfold CfM.restM at q'
      generalize CfM.shareM ws d = sh at *
      refine ⟨.int d, rfl, .int sh, rfl, d, sh, rfl, rfl, by omega, ?_⟩
      refine ⟨.ref a, rfl, a, rfl, ⟨_, hA⟩, fun D hD => ?_⟩
      refine lc_mapI (goes_list hA) (fun x => (x.fdiv sh).fmod (d.fdiv sh)) hlen hD (fun _ => rfl) (fun n x H3 post e s hp => ?_) (fun H3 s e => ?_)
      · exact ⟨.int x, rfl, .int sh, rfl, x, sh, rfl, rfl, by omega, _, rfl, _, d.fdiv sh, rfl, rfl, by omega, hp⟩
      · refine ⟨D, _, rfl, .inl ⟨.inl (.inl e), fun t ht => ⟨_, rfl, by show 3 ≤ sizeLine; decide, fun p hp => ?_⟩⟩⟩
        refine q' _ p ((s.trans (same_upd ht)).trans (same_upd hp)) ⟨t, upd_same, ?_⟩
        rw [upd_ne (ne_of_none upd_same hp), upd_same]
end
end CfW

namespace CfW
open PySem PySem.Spec PyProof.Rows L2 CfX
abbrev nTurned : List Str := ["columns", "inverse", "free", "coefs", "at", "found", "left", "size", "pivot", "often", "whole", "a", "b"]
theorem scTurned : FnScope nTurned ["columns", "inverse", "free", "coefs"] (defScope sTurned) := ⟨rfl, rfl, rfl, by decide +kernel, rfl, by decide +kernel, by decide +kernel⟩
/-! ### lists of lists of ints that may be changed -/
def LstMat (N : Addr → Prop) (H : Hp) (b : Addr) (M : List (List Int)) : Prop := ∃ ts : List Addr, H b = some (.lst (ts.map V.ref)) ∧ Paired (fun t (v : List Int) => H t = some (.lst (v.map V.int))) ts M ∧ ∀ t ∈ ts, N t
def natsV (l : List Nat) : List V := l.map fun (a : Nat) => V.int (a : Int)
/-- all but b and c stays -/
def But2 (b c : Addr) (H H' : Hp) : Prop := ∀ a o, a ≠ b → a ≠ c → H a = some o → H' a = some o
theorem But2.refl {b c : Addr} {H : Hp} : But2 b c H H := fun _ _ _ _ e => e
theorem But2.trans {b c : Addr} {H H1 H2 : Hp} (x : But2 b c H H1) (y : But2 b c H1 H2) : But2 b c H H2 := fun a o n m e => y a o n m (x a o n m e)
theorem But2.of {b c : Addr} {H H' : Hp} (s : Same H H') : But2 b c H H' := fun a o _ _ e => s a o e
theorem But2.one {b c : Addr} {H : Hp} {o : HO} : But2 b c H (upd H b o) := fun a x n _ e => by rw [upd_ne n]; exact e
theorem But2.two {b c : Addr} {H : Hp} {o : HO} : But2 b c H (upd H c o) := fun a x _ m e => by rw [upd_ne m]; exact e
theorem none_but2 {b c t : Addr} {H H' : Hp} {x y : HO} (s : But2 b c H H') (eb : H' b = some x) (ec : H' c = some y) (h : H' t = none) : H t = none := by
  cases e : H t with
  | none => rfl
  | some o =>
    rw [s t o (fun z => by rw [z, eb] at h; cases h) (fun z => by rw [z, ec] at h; cases h) e] at h
    cases h
theorem set_all {N : Addr → Prop} {l : List Addr} {i : Nat} {x : Addr} (h : ∀ t ∈ l, N t) (hx : N x) : ∀ t ∈ l.set i x, N t := fun t ht => by
  rcases List.mem_or_eq_of_mem_set ht with z | z
  · exact h t z
  · rw [z]; exact hx
theorem mat_row {H : Hp} {ts : List Addr} {M : List (List Int)} (p : Paired (fun t (v : List Int) => H t = some (.lst (v.map V.int))) ts M) {i : Nat} (hi : i < M.length) : ∃ t, ts[i]? = some t ∧ H t = some (.lst ((CfM.row M i).map V.int)) := by
  have hl := Paired.length p
  have e : ts[i]? = some ts[i] := List.getElem?_eq_getElem (by omega)
  obtain ⟨v, ev, h⟩ := paired_get p e
  refine ⟨ts[i], e, ?_⟩
  have : CfM.row M i = v := by
    unfold CfM.row
    rw [List.getD_eq_getElem?_getD, ev]
    rfl
  rw [this]
  exact h
theorem mat_set {H : Hp} {ts : List Addr} {M : List (List Int)} {t : Addr} {v : List Int} {i : Nat} (p : Paired (fun t (v : List Int) => H t = some (.lst (v.map V.int))) ts M) (h : H t = some (.lst (v.map V.int))) : Paired (fun t (v : List Int) => H t = some (.lst (v.map V.int))) (ts.set i t) (M.set i v) := by
  induction p generalizing i with
  | nil => exact .nil
  | cons a r ih =>
    cases i with
    | zero => exact .cons h r
    | succ i => exact .cons a (ih (i := i))
/-- the rows' addresses are not the list's own -/
theorem mat_off {H : Hp} {b : Addr} {ts us : List Addr} {M : List (List Int)} (e : H b = some (.lst (us.map V.ref))) (hu : us ≠ []) (p : Paired (fun t (v : List Int) => H t = some (.lst (v.map V.int))) ts M) : b ∉ ts := by
  intro hb
  obtain ⟨i, hi, ei⟩ := List.mem_iff_getElem.mp hb
  obtain ⟨v, _, h⟩ := paired_get p (show ts[i]? = some b by rw [List.getElem?_eq_getElem hi, ei])
  rw [e] at h
  have h2 := HO.lst.inj (Option.some.inj h)
  cases us with
  | nil => exact hu rfl
  | cons x us =>
    cases v with
    | nil => cases h2
    | cons y v => injection h2 with h3 _; cases h3
theorem mat_but {b c : Addr} {H H' : Hp} {ts : List Addr} {M : List (List Int)} (s : But2 b c H H') (hb : b ∉ ts) (hc : c ∉ ts) (p : Paired (fun t (v : List Int) => H t = some (.lst (v.map V.int))) ts M) : Paired (fun t (v : List Int) => H' t = some (.lst (v.map V.int))) ts M := by
  induction p with
  | nil => exact .nil
  | @cons t v ts M a r ih =>
    exact .cons (s t _ (fun z => hb (by rw [← z]; exact List.mem_cons_self)) (fun z => hc (by rw [← z]; exact List.mem_cons_self)) a) (ih (fun z => hb (List.mem_cons_of_mem _ z)) fun z => hc (List.mem_cons_of_mem _ z))
theorem mat_same {H H' : Hp} {ts : List Addr} {M : List (List Int)} (s : Same H H') (p : Paired (fun t (v : List Int) => H t = some (.lst (v.map V.int))) ts M) : Paired (fun t (v : List Int) => H' t = some (.lst (v.map V.int))) ts M := Paired.mapP p fun _ _ z => s _ _ z
def encD (l : List (Nat × Int)) : List (Key × V) := l.map fun p => (Sum.inl (p.1 : Int), V.int p.2)
theorem valV_enc : ∀ {l : List (Nat × Int)} {k : Nat}, CfM.HasK l k → valV (encD l) (Sum.inl (k : Int)) = some (.int (CfM.lk l k))
  | p :: l, k, h => by
    unfold valV encD
    rw [List.map_cons, List.find?_cons, CfM.lk_cons]
    by_cases e : p.1 = k
    · rw [if_pos e, decide_eq_true (by rw [e])]
      rfl
    · rw [if_neg e, decide_eq_false (fun z => e (by have := Sum.inl.inj z; omega))]
      have h' : CfM.HasK l k := by
        rcases List.mem_cons.mp h with z | z
        · exact absurd z.symm e
        · exact z
      exact valV_enc h'
theorem enc_eq {l : List (Nat × Int)} {kvs : List (Key × V)} (hl : kvs.length = l.length) (h : ∀ (i : Nat) (p : Key × V), kvs[i]? = some p → ∃ q : Nat × Int, l[i]? = some q ∧ p.1 = Sum.inl (q.1 : Int) ∧ p.2 = V.int q.2) : kvs = encD l := by
  apply List.ext_getElem? fun i => ?_
  unfold encD
  rw [List.getElem?_map]
  cases e : kvs[i]? with
  | none =>
    have := List.getElem?_eq_none_iff.mp e
    rw [List.getElem?_eq_none (by omega)]
    rfl
  | some p =>
    obtain ⟨q, eq, e1, e2⟩ := h i p e
    rw [eq]
    obtain ⟨a, b⟩ := p
    dsimp only at e1 e2
    subst e1 e2
    rfl
theorem nats_at {l : List Nat} {i : Nat} {v : V} (h : (natsV l)[i]? = some v) : ∃ a : Nat, l[i]? = some a ∧ v = .int (a : Int) := by
  unfold natsV at h
  rw [List.getElem?_map] at h
  cases e : l[i]? with
  | none => rw [e] at h; cases h
  | some x => rw [e] at h; cases h; exact ⟨x, rfl, rfl⟩
theorem nd_at {l : List Nat} (h : l.Nodup) {i j : Nat} (hi : i < l.length) (hj : j < l.length) (e : l[i] = l[j]) : i = j := (List.getElem_inj h).mp e
theorem range_getD {α : Type} (l : List α) (d : α) : (List.range l.length).map (fun i => l.getD i d) = l := by
  apply List.ext_getElem? fun i => ?_
  rw [List.getElem?_map]
  by_cases h : i < l.length
  · rw [List.getElem?_range h]
    show some (l.getD i d) = _
    rw [List.getD_eq_getElem?_getD, List.getElem?_eq_getElem h]
    rfl
  · rw [List.getElem?_eq_none (by rw [List.length_range]; omega), List.getElem?_eq_none (by omega)]
    rfl
theorem lft_range (l : List (Nat × Int)) : ((List.range l.length).filter fun i => (l.getD i (0, 0)).2 != 0).map (fun i => (CfM.absI (l.getD i (0, 0)).2, ((l.getD i (0, 0)).1 : Int))) = CfM.lft l := by
  have e := congrArg CfM.lft (range_getD l (0, 0))
  rw [← e]
  unfold CfM.lft
  rw [List.filter_map, List.map_map]
  rfl
/-- pairs made in a list, at their addresses -/
theorem pairs_at {H H' : Hp} {L : Addr} {l : List (Nat × Int)} (st : ∀ T x y, T ≠ L → H T = some (.tup [x, y]) → H' T = some (.tup [x, y])) : ∀ {is : List Nat} {zs : List V}, Paired (fun i z => ∃ T q, l[i]? = some q ∧ z = V.ref T ∧ T ≠ L ∧ H T = some (.tup [.int (CfM.absI q.2), .int (q.1 : Int)])) is zs →
    ∃ ts : List Addr, zs = ts.map V.ref ∧ Paired (fun (t : Addr) (r : Int × Int) => H' t = some (.tup [.int r.1, .int r.2])) ts (is.map fun i => (CfM.absI (l.getD i (0, 0)).2, ((l.getD i (0, 0)).1 : Int)))
  | _, _, .nil => ⟨[], rfl, .nil⟩
  | _, _, .cons (a := i) h r => by
    obtain ⟨ts, e, p⟩ := pairs_at st r
    obtain ⟨T, q, e1, e2, e3, e4⟩ := h
    refine ⟨T :: ts, by rw [e, e2]; rfl, .cons ?_ p⟩
    have : l.getD i (0, 0) = q := by rw [List.getD_eq_getElem?_getD, e1]; rfl
    dsimp only
    rw [this]
    exact st _ _ _ e3 e4
theorem paired_ref {R : Addr → Int × Int → Prop} {ts : List Addr} {l : List (Int × Int)} (p : Paired R ts l) {i : Nat} {r : Int × Int} (h : l[i]? = some r) : ∃ t, ts[i]? = some t ∧ R t r := by
  have hl := Paired.length p
  have hi : i < l.length := (List.getElem?_eq_some_iff.mp h).1
  have e : ts[i]? = some ts[i] := List.getElem?_eq_getElem (by omega)
  obtain ⟨r', er, hr⟩ := paired_get p e
  rw [h] at er
  cases er
  exact ⟨_, e, hr⟩
theorem minP_eq (p : Int × Int) (ps : List (Int × Int)) : CfX.minP p ps = CfM.minP p ps := rfl
theorem ixN_nat {n a : Nat} (h : a < n) : ixN n (a : Int) = some a := by
  unfold ixN
  rw [if_pos (by omega), if_pos (by omega)]
  rfl
theorem zip_sub (q : Int) (u v : List Int) : List.zipWith (fun x y => x - q * y) u v = CfM.ax (-q) u v := by
  unfold CfM.ax
  congr 1
  funext x y
  rw [Int.neg_mul]
  omega
theorem g_some {v : List Int} {i : Nat} {x : Int} (h : v[i]? = some x) : CfM.g v i = x := by
  unfold CfM.g
  rw [List.getD_eq_getElem?_getD, h]
  rfl
def optV : Option Nat → V
  | none => .non
  | some a => .int (a : Int)
def spTurned : Sp := fun vs H Q _ => ∃ (b c fr co : Addr) (cols inv : List (List Int)) (free : List Nat) (coefs : List Int) (wd X Y : Nat) (N : Addr → Prop), vs = [.ref b, .ref c, .ref fr, .ref co] ∧ (∀ t, H t = none → N t) ∧ b ≠ c ∧ LstMat N H b cols ∧ LstMat N H c inv ∧
  (H fr = some (.lst (natsV free)) ∧ fr ≠ b ∧ fr ≠ c) ∧ (H co = some (.lst (coefs.map V.int)) ∧ co ≠ b ∧ co ≠ c) ∧ CfM.Inverse wd cols inv ∧ (∀ a ∈ free, a < wd) ∧ free.Nodup ∧ (wd ≤ 8 ∧ free.length ≤ 8) ∧ coefs.length = wd ∧ (∀ i, (CfM.g coefs i).natAbs ≤ 2 ^ 40) ∧
  (X ≤ 12000000 ∧ Y ≤ 35000000 ∧ ∀ n, CfM.BdC (CfM.turnF n cols inv free coefs).1 free (2 ^ X) ∧ CfM.BdI (CfM.turnF n cols inv free coefs).2.1 (2 ^ Y)) ∧
  ∀ H', But2 b c H H' → LstMat N H' b (CfM.turnF (CfM.fuelOf cols coefs free) cols inv free coefs).1 → LstMat N H' c (CfM.turnF (CfM.fuelOf cols coefs free) cols inv free coefs).2.1 → Q (optV (CfM.turnF (CfM.fuelOf cols coefs free) cols inv free coefs).2.2) H'
section
variable {P : Program} {w : World} {K : PySem.W.Frag} {mg : Str → Option Value} {base : Heap}
theorem ok_turned {f fP : Addr} {fd fdP : FuncData} {k : Nat} (F : Fun K "turned" "turned" sTurned f fd) (hk : 40 ≤ k) (sb : base.NoSeer) (tr : P.given.tree = none) (FP : FnOk P w K mg base CX0 k fP fdP ["one", "other"] (spDot K)) (kP : PySem.W.keepIn K (.ref fP) = true) (bP : Binds K fdP ["one", "other"] [])
    (gP : mg "product" = some (.ref fP)) (ma : mg "abs" = none) (ml : mg "len" = none) (mm : mg "min" = none) (mz : mg "zip" = none) : FnOk P w K mg base CX0 (k + 1) f fd ["columns", "inverse", "free", "coefs"] spTurned := by
  refine F.ok scTurned (fun vs H Q E h => ?_) (fun cdv A outer s H vs Q E hr h => ?_)
  · obtain ⟨_, _, _, _, _, _, _, _, _, _, _, _, rfl, _⟩ := h
    rfl
  · obtain ⟨b, c, fr, co, cols, inv, free, coefs, wd, X, Y, N, rfl, hN, hbc, hB, hC, hF, hO, I, hlt, hnd, ⟨h8, hfl⟩, hcl, hcb, ⟨hX, hY, hbd⟩, q⟩ := h
    have hpy := room100 hr hk
    have hu := hu_of hr
    refine ⟨_, pss_one (ps_while PassesOwn.never (pt_val pe_bl)
      (pss_cons (ps_setDc (i := 5) (own := [("at", 4)]) (g := gName 4) (tt := tYes) rfl scTurned.nd rfl rfl (sw_trueD rfl rfl rfl (by decide +kernel)) (pi_list (pv 2)) (blkOk_by (N := nTurned) (sc := defScope sTurned) (by decide +kernel))
          (fun _ _ _ _ _ => pg_name (i := 4) scTurned.nd rfl (Or.inl rfl)) (fun _ _ _ _ _ => pts_nil) (fun _ _ _ _ _ => pv 4)
          (fun _ _ _ _ _ => pe_call FP hr (by rfl) gP kP bP .nil pass0 (pa_cons (pv 3) (pa_cons (pe_ix (r := rIxL K) ix_list (pv 0) (pv 4) (fun _ _ => rfl)) pa_nil))))
      (pss_cons (ps_lock (ps_setLc (i := 6) (own := [("at", 4), ("whole", 10)]) (g := gTup K 2 (gCons (gName 4) (gCons (gName 10) gNil))) rfl scTurned.nd rfl rfl (sw_true rfl rfl rfl (by decide +kernel)) (pi_items (pv 5)) (blkOk_by (N := nTurned) (sc := defScope sTurned) (by decide +kernel))
          (fun _ _ _ _ _ => pg_tup rfl (pgs_cons (pg_name (i := 4) scTurned.nd rfl (Or.inl rfl)) (pgs_cons (pg_name (i := 10) scTurned.nd rfl (Or.inl rfl)) pgs_nil)))
          (fun _ _ _ _ _ => pts_one (pt_cmpR op_ne (pv 10) pe_int (nomark _)))
          (fun _ _ _ _ _ => pe_tup (pa_cons (pe_callB call_abs (by rfl) ma (by decide +kernel) (pa_cons (pv 10) pa_nil)) (pa_cons (pv 4) pa_nil)))))
      (pss_cons (ps_if (pt_cmpR op_lt (pe_callB call_len_seq (by rfl) ml PySem.boot_len (pa_cons (pv 6) pa_nil)) pe_int (nomark _))
          (pss_one (ps_ret (pe_ifExp (pt_truth (pv 6) (by intro _; rfl)) (pe_ix ix_tup (pe_ix ix_list (pv 6) pe_int (fun _ _ => rfl)) pe_int (fun _ _ => rfl)) pe_non))) pss_nil)
      (pss_cons (ps_asg (pe_callB (cr_minP rfl (Nat.lt_of_le_of_lt (Nat.add_le_add_left (by decide : 10 ≤ 64) _) hr.units)) (by rfl) mm (by decide +kernel) (pa_cons (pv 6) pa_nil)) (pg_tup rfl (pgs_cons (pg_name (i := 7) scTurned.nd rfl (Or.inl rfl)) (pgs_cons (pg_name (i := 8) scTurned.nd rfl (Or.inl rfl)) pgs_nil))))
      (pss_one (ps_for PassesOwn.never rfl (pi_list (pv 6)) (pg_tup rfl (pgs_cons (pg_name (i := 7) scTurned.nd rfl (Or.inl rfl)) (pgs_cons (pg_name (i := 4) scTurned.nd rfl (Or.inl rfl)) pgs_nil)))
        (pss_one (ps_if (pt_cmpR op_ne (pv 4) (pv 8) (nomark _))
          (pss_cons (ps_set (i := 9) scTurned.nd rfl (.inr rfl) (pe_op (op_fdivP ⟨sb, tr, hpy, ⟨_, _, rfl, rfl, rfl, rfl, rfl⟩⟩) (pe_dget hu (pv 5) (pv 4) (fun _ _ => rfl)) (pe_dget hu (pv 5) (pv 8) (fun _ _ => rfl))))
          (pss_cons (ps_asg (pe_lc (own := [("a", 11), ("b", 12)]) (g := gTup K 2 (gCons (gName 11) (gCons (gName 12) gNil))) (tt := tYes) rfl scTurned.nd (pi_zipB (by rfl) mz (pa_cons (pe_ix ix_list (pv 0) (pv 4) (fun _ _ => rfl)) (pa_cons (pe_ix ix_list (pv 0) (pv 8) (fun _ _ => rfl)) pa_nil)))
              (blkOk_by (N := nTurned) (sc := defScope sTurned) (by decide +kernel))
              (fun _ _ _ _ _ => pg_tup rfl (pgs_cons (pg_name (i := 11) scTurned.nd rfl (Or.inl rfl)) (pgs_cons (pg_name (i := 12) scTurned.nd rfl (Or.inl rfl)) pgs_nil))) (fun _ _ _ _ _ => pts_nil)
              (fun _ _ _ _ _ => pe_op op_sub (pv 11) (pe_op op_mulX (pv 9) (pv 12)))) (pg_sub (pv 0) (pv 4) set_list))
          (pss_one (ps_asg (pe_lc (own := [("a", 11), ("b", 12)]) (g := gTup K 2 (gCons (gName 11) (gCons (gName 12) gNil))) (tt := tYes) rfl scTurned.nd (pi_zipB (by rfl) mz (pa_cons (pe_ix ix_list (pv 1) (pv 8) (fun _ _ => rfl)) (pa_cons (pe_ix ix_list (pv 1) (pv 4) (fun _ _ => rfl)) pa_nil)))
              (blkOk_by (N := nTurned) (sc := defScope sTurned) (by decide +kernel))
              (fun _ _ _ _ _ => pg_tup rfl (pgs_cons (pg_name (i := 11) scTurned.nd rfl (Or.inl rfl)) (pgs_cons (pg_name (i := 12) scTurned.nd rfl (Or.inl rfl)) pgs_nil))) (fun _ _ _ _ _ => pts_nil)
              (fun _ _ _ _ _ => pe_op op_add (pv 11) (pe_op op_mulX (pv 9) (pv 12)))) (pg_sub (pv 1) (pv 8) set_list)))))
          pss_nil))))))))), ?_⟩
    have len0 := I.wc.len
    refine ⟨fun m σ H2 => ∃ (j : Nat) (c1 v1 : List (List Int)) (y4 y5 y6 y7 y8 y9 y10 y11 y12 : Option V), σ = [some (.ref b), some (.ref c), some (.ref fr), some (.ref co), y4, y5, y6, y7, y8, y9, y10, y11, y12] ∧ But2 b c H H2 ∧ LstMat N H2 b c1 ∧ LstMat N H2 c v1 ∧ CfM.Inverse wd c1 v1 ∧
      (∀ n, CfM.turnF (j + n) cols inv free coefs = CfM.turnF n c1 v1 free coefs) ∧ CfM.Fuel m c1 coefs free ∧ j + m = CfM.fuelOf cols coefs free,
      ⟨CfM.fuelOf cols coefs free, 0, cols, inv, none, none, none, none, none, none, none, none, none, rfl, But2.refl, hB, hC, I, fun n => by rw [Nat.zero_add], CfM.fuel_ok _ _ _, Nat.zero_add _⟩, fun m σ H2 hW => ?_⟩
    obtain ⟨j, c1, v1, y4, y5, y6, y7, y8, y9, y10, y11, y12, rfl, s2, hB2, hC2, I2, hj, hF2, hm⟩ := hW
    have hj0 := hj 0
    rw [Nat.add_zero] at hj0
    have bd := hbd j
    rw [hj0] at bd
    have bC : CfM.BdC c1 free (2 ^ X) := bd.1
    have bI : CfM.BdI v1 (2 ^ Y) := bd.2
    have fr2 : H2 fr = some (.lst (natsV free)) := s2 fr _ hF.2.1 hF.2.2 hF.1
    have co2 : H2 co = some (.lst (coefs.map V.int)) := s2 co _ hO.2.1 hO.2.2 hO.1
    obtain ⟨tb, eB, pB, nB⟩ := hB2
    obtain ⟨tc, eC, pC, nC⟩ := hC2
    have lenc := I2.wc.len
    have lenv := I2.wi.len
    refine ⟨true, rfl, iteT ⟨fun σ' H' => ∃ m', m' < m ∧ _, fun σ' H' h => h, ?_⟩⟩
    -- found = {at: product(coefs, columns[at]) for at in free}
    refine ⟨.ref fr, rfl, fr, rfl, ⟨_, .inl (.inl fr2)⟩, fun D hD => ?_⟩
    have l8 : (natsV free).length = free.length := List.length_map _
    refine dc_by (goes_list (K := K) (.inl (.inl fr2))) hD (by omega) (fun i => Sum.inl ((free.getD i 0 : Nat) : Int)) (fun i i' hi hi' e => ?_) (fun i z _ => ∃ a, free[i]? = some a ∧ z = .int (CfM.dot coefs (CfM.row c1 a))) (fun _ _ _ _ _ h => h) (fun i v H3 hi s3 hacc it post hp => ?_) (fun H3 kvs s3 eD hkl hkv => ?_)
    · rw [l8] at hi hi'
      have e1 : free[i]? = some (free.getD i 0) := by rw [List.getD_eq_getElem?_getD, List.getElem?_eq_getElem hi]; rfl
      have e2 : free[i']? = some (free.getD i' 0) := by rw [List.getD_eq_getElem?_getD, List.getElem?_eq_getElem hi']; rfl
      have e3 := Sum.inl.inj e
      rw [show free.getD i 0 = free.getD i' 0 by omega, ← e2, List.getElem?_eq_getElem hi, List.getElem?_eq_getElem hi'] at e1
      exact nd_at hnd hi hi' (Option.some.inj e1)
    · obtain ⟨a, ea, rfl⟩ := nats_at it
      have ha : a ∈ free := List.mem_of_getElem? ea
      have hac : a < c1.length := by rw [lenc]; exact hlt a ha
      obtain ⟨ta, et, eta⟩ := mat_row pB hac
      have erow : (tb.map V.ref)[a]? = some (.ref ta) := by rw [List.getElem?_map, et]; rfl
      have hla := I2.wc.row (hlt a ha)
      refine ⟨rfl, _, rfl, .ref co, rfl, .ref b, rfl, .int (a : Int), rfl, b, _, (a : Int), .ref ta, rfl, rfl, .inl (.inl (s3 _ _ eB)), atI_nat erow, ?_⟩
      refine ⟨false, false, co, ta, coefs, CfM.row c1 a, rfl, .inl (.inl (s3 _ _ co2)), .inl (.inl (s3 _ _ eta)), by omega, fun n x y hx hy => ?_, fun H5 s5 => ?_⟩
      · have b1 := hcb n
        have b2 := bC a ha n
        rw [show CfM.g coefs n = x by unfold CfM.g; rw [List.getD_eq_getElem?_getD, hx]; rfl] at b1
        unfold CfM.ent at b2
        rw [show CfM.g (CfM.row c1 a) n = y by unfold CfM.g; rw [List.getD_eq_getElem?_getD, hy]; rfl] at b2
        exact cmul_of b1 b2 (by omega)
      · have z := hp (.int (CfM.dot coefs (CfM.row c1 a))) H5 s5 ⟨a, ea, rfl⟩
        have ek : kV (Sum.inl ((free.getD i 0 : Nat) : Int)) = V.int (a : Int) := by
          rw [List.getD_eq_getElem?_getD, ea]
          rfl
        rw [ek] at z
        exact z
    have ekvs : kvs = encD (CfM.fnd c1 coefs free) := by
      refine enc_eq (by rw [hkl, l8]; unfold CfM.fnd; rw [List.length_map]) fun i p hp => ?_
      obtain ⟨e1, a, ea, e2⟩ := hkv i p hp
      refine ⟨(a, CfM.dot coefs (CfM.row c1 a)), ?_, ?_, e2⟩
      · unfold CfM.fnd
        rw [List.getElem?_map, ea]
        rfl
      · rw [e1, List.getD_eq_getElem?_getD, ea]
        rfl
    subst ekvs
    -- left = [(abs(whole), at) for at, whole in found.items() if whole != 0]
    refine ⟨D, _, eD, True.intro, fun od => ?_⟩
    refine ⟨.ref D, rfl, D, od, encD (CfM.fnd c1 coefs free), rfl, upd_same, fun L hL => ?_⟩
    have nLD : L ≠ D := fun z => by rw [z, upd_same] at hL; cases hL
    have hL3 : H3 L = none := by rw [upd_ne nLD] at hL; exact hL
    have lfnd : (encD (CfM.fnd c1 coefs free)).length = free.length := by unfold encD CfM.fnd; rw [List.length_map, List.length_map]
    refine lc_keep (goes_items upd_same) hL (by omega) (fun i => ((CfM.fnd c1 coefs free).getD i (0, 0)).2 != 0) (fun i z H' => ∃ T q, (CfM.fnd c1 coefs free)[i]? = some q ∧ z = .ref T ∧ T ≠ L ∧ H' T = some (.tup [.int (CfM.absI q.2), .int (q.1 : Int)])) (fun i z H' H'' bu h => ?_) (fun i v H4 hi s4 hacc it post non hp hn => ?_) (fun H4 zs s4 eL hz => ?_)
    · obtain ⟨T, q1, e1, e2, e3, e4⟩ := h
      exact ⟨T, q1, e1, e2, e3, bu _ _ e3 e4⟩
    · obtain ⟨T, ky, x, rfl, eT, ekx⟩ := it
      have eq0 : ∃ q0, (CfM.fnd c1 coefs free)[i]? = some q0 ∧ ky = Sum.inl (q0.1 : Int) ∧ x = V.int q0.2 := by
        unfold encD at ekx
        rw [List.getElem?_map] at ekx
        cases e : (CfM.fnd c1 coefs free)[i]? with
        | none => rw [e] at ekx; cases ekx
        | some q0 => rw [e] at ekx; cases ekx; exact ⟨q0, rfl, rfl, rfl⟩
      obtain ⟨q0, eq0, rfl, rfl⟩ := eq0
      have egd : (CfM.fnd c1 coefs free).getD i (0, 0) = q0 := by rw [List.getD_eq_getElem?_getD, eq0]; rfl
      rw [egd] at hp hn
      refine ⟨T, _, rfl, .inl (.inl eT), rfl, _, _, rfl, _, _, rfl, rfl, rfl, .int q0.2, rfl, rfl, _, rfl, ?_⟩
      by_cases hz : q0.2 = 0
      · rw [decide_eq_true (by rw [hz])]
        exact hn (by rw [hz]; rfl) H4 (Same.refl _)
      · rw [decide_eq_false (fun z => hz (V.int.inj z))]
        refine iteT ⟨_, rfl, q0.2, rfl, _, rfl, by show 2 ≤ sizeLine; decide, fun p np => ?_⟩
        refine hp (by simpa using hz) (.ref p) _ (same_upd np) ⟨p, q0, eq0, rfl, fun z => ?_, upd_same⟩
        obtain ⟨acc, ea⟩ := hacc
        rw [z, ea] at np
        cases np
    have eD4 := s4 D _ upd_same
    obtain ⟨ts, ezs, hts⟩ := pairs_at (H' := upd H4 D (.dK (encD (CfM.fnd c1 coefs free)))) (fun T x y nT e => by
      have : T ≠ D := fun z => by rw [z, eD4] at e; cases e
      rw [upd_ne this]
      exact e) hz
    have lf2 : (encD (CfM.fnd c1 coefs free)).length = (CfM.fnd c1 coefs free).length := List.length_map _
    rw [lf2, lft_range] at hts
    subst ezs
    refine ⟨eD4, ?_⟩
    have s35 : Same H3 (upd H4 D (.dK (encD (CfM.fnd c1 coefs free)))) := fun a o e => by
      by_cases ha : a = D
      · rw [ha, upd_same]
        rw [ha, eD] at e
        exact e
      · rw [upd_ne ha]
        exact s4 a o (by rw [upd_ne ha]; exact e)
    have eL5 : (upd H4 D (.dK (encD (CfM.fnd c1 coefs free)))) L = some (.lst (ts.map V.ref)) := by rw [upd_ne nLD]; exact eL
    have eD5 : (upd H4 D (.dK (encD (CfM.fnd c1 coefs free)))) D = some (.dK (encD (CfM.fnd c1 coefs free))) := upd_same
    generalize upd H4 D (.dK (encD (CfM.fnd c1 coefs free))) = H5 at hts s35 eL5 eD5
    have nLb : L ≠ b := (ne_of_none (s3 _ _ eB) hL3).symm
    have nLc : L ≠ c := (ne_of_none (s3 _ _ eC) hL3).symm
    have nDb : D ≠ b := (ne_of_none eB hD).symm
    have nDc : D ≠ c := (ne_of_none eC hD).symm
    clear hz eL s4 hL hL3
    have s25 : Same H2 H5 := s3.trans s35
    have llft : ts.length = (CfM.nz c1 coefs free).length := by
      rw [Paired.length hts, CfM.lft_nz, List.length_map]
    -- if len(left) < 2
    refine ⟨.ref L, rfl, L, ts.map V.ref, rfl, .inl (.inl (.inl eL5)), _, 2, rfl, rfl, _, rfl, ?_⟩
    have hm1 : ∃ m', m = m' + 1 := ⟨m - 1, by have := hF2.1; omega⟩
    obtain ⟨m', rfl⟩ := hm1
    have hend := hj (m' + 1)
    rw [hm] at hend
    have fin : ∀ r, CfM.turnF (m' + 1) c1 v1 free coefs = (c1, v1, r) → Q (optV r) H5 := fun r e => by
      have z := q H5 (s2.trans (But2.of s25))
      rw [hend, e] at z
      exact z ⟨tb, s25 _ _ eB, mat_same s25 pB, nB⟩ ⟨tc, s25 _ _ eC, mat_same s25 pC, nC⟩
    cases hlf : CfM.lft (CfM.fnd c1 coefs free) with
    | nil =>
      rw [hlf] at hts
      cases hts
      refine iteT ⟨.ref L, rfl, false, .inl ⟨[], .inl (.inl eL5), rfl⟩, ?_⟩
      refine fin none ?_
      rcases CfM.turnF_cases m' c1 v1 free coefs with ⟨hn, e⟩ | ⟨a, hn, e⟩ | ⟨hn2, _⟩
      · exact e
      · rw [hn] at llft; cases llft
      · rw [← llft] at hn2; exact absurd hn2 (by simp)
    | cons p0 ps0 =>
      rw [hlf] at hts
      cases ps0 with
      | nil =>
        cases hts with
        | @cons t0 _ ts1 _ ht0 hr0 =>
        cases hr0
        rcases CfM.turnF_cases m' c1 v1 free coefs with ⟨hn, _⟩ | ⟨a, hn, e⟩ | ⟨hn2, _⟩
        · rw [hn] at llft; cases llft
        · have ep0 : p0 = (CfM.absI (CfM.dot coefs (CfM.row c1 a)), (a : Int)) := by
            have z := CfM.lft_nz c1 coefs free
            rw [hlf, hn] at z
            exact (List.cons.inj z).1
          rw [ep0] at ht0
          refine iteT ⟨.ref L, rfl, true, .inl ⟨[V.ref t0], .inl (.inl eL5), rfl⟩, iteT ⟨.ref L, rfl, L, _, 0, .ref t0, rfl, rfl, .inl (.inl eL5), atI_nat (j := 0) rfl, t0, _, 1, .int (a : Int), rfl, rfl, .inl (.inl ht0), atI_nat (j := 1) rfl, ?_⟩⟩
          exact fin (some a) e
        · rw [← llft] at hn2; exact absurd hn2 (by simp)
      | cons p1 ps =>
        have l2 : 2 ≤ ts.length := by rw [Paired.length hts]; simp
        have nlt : ¬ (((ts.map V.ref).length : Int) < 2) := by rw [List.length_map]; omega
        rw [decide_eq_false nlt]
        refine iteF ?_
        obtain ⟨pv0, hpm, hpmin, emin, estep⟩ := CfM.turnF_pivot m' c1 v1 free coefs hlf
        -- size, pivot = min(left)
        refine ⟨.ref L, rfl, L, ts, p0, p1 :: ps, rfl, .inl (.inl eL5), hts, fun T hT => ?_⟩
        rw [minP_eq, emin] at hT
        refine ⟨T, _, rfl, .inl (.inl hT), rfl, _, _, rfl, _, _, rfl, rfl, ?_⟩
        -- for size, at in left
        refine ⟨.ref L, rfl, L, rfl, ⟨_, .inl (.inl eL5)⟩, ?_⟩
        have hpf := (CfM.mem_nz.mp hpm).1
        have hp0 := (CfM.mem_nz.mp hpm).2
        have hpw := hlt pv0 hpf
        have eb5 := s25 _ _ eB
        have ec5 := s25 _ _ eC
        have lkp : CfM.lk (CfM.fnd c1 coefs free) pv0 = CfM.dot coefs (CfM.row c1 pv0) := CfM.lk_fnd hpf
        have hasK : ∀ a ∈ free, CfM.HasK (CfM.fnd c1 coefs free) a := fun a ha => by
          unfold CfM.HasK CfM.fnd
          rw [List.map_map]
          exact List.mem_map.mpr ⟨a, ha, rfl⟩
        have hq : ∀ a ∈ free, (CfM.quo (CfM.fnd c1 coefs free) pv0 a).natAbs ≤ 2 ^ (44 + X) := fun a ha => by
          unfold CfM.quo
          rw [lkp, CfM.lk_fnd ha]
          have z := CfM.dot_bd (u := coefs) (v := CfM.row c1 a) (.inl hcl) h8 hcb (fun n => bC a ha n)
          have z2 := CfM.fdiv_le (a := CfM.dot coefs (CfM.row c1 a)) hp0
          have z3 : (CfM.dot coefs (CfM.row c1 a)).natAbs / (CfM.dot coefs (CfM.row c1 pv0)).natAbs ≤ (CfM.dot coefs (CfM.row c1 a)).natAbs := Nat.div_le_self _ _
          have z4 : 8 * (2 ^ 40 * 2 ^ X) = 2 ^ (43 + X) := by
            rw [show 43 + X = 3 + (40 + X) by omega, Nat.pow_add 2 3, Nat.pow_add 2 40]
          have z5 : 2 ^ (44 + X) = 2 * 2 ^ (43 + X) := by rw [show 44 + X = (43 + X) + 1 by omega, Nat.pow_succ, Nat.mul_comm]
          have z6 : 1 ≤ 2 ^ (43 + X) := Nat.pow_pos (by decide)
          omega
        refine for_list (xs := ts.map V.ref) (fun i σ H' => ∃ z4 z7 z9 z10 z11 z12, σ = [some (.ref b), some (.ref c), some (.ref fr), some (.ref co), z4, some (.ref D), some (.ref L), z7, some (.int (pv0 : Int)), z9, z10, z11, z12] ∧ But2 b c H5 H' ∧
          LstMat N H' b (((CfM.nz c1 coefs free).take i).foldl (CfM.stepT (CfM.quo (CfM.fnd c1 coefs free) pv0) pv0) (c1, v1)).1 ∧ LstMat N H' c (((CfM.nz c1 coefs free).take i).foldl (CfM.stepT (CfM.quo (CfM.fnd c1 coefs free) pv0) pv0) (c1, v1)).2)
          ⟨_, _, _, _, _, _, rfl, But2.refl, ⟨tb, eb5, mat_same s25 pB, nB⟩, ⟨tc, ec5, mat_same s25 pC, nC⟩⟩ (fun i σ H' _ hP => ?_) (fun i x σ H' hx hP => ?_) (fun σ H' hP => ?_)
        · obtain ⟨_, _, _, _, _, _, _, sb2, _⟩ := hP
          exact .inl (.inl (sb2 _ _ nLb nLc eL5))
        · obtain ⟨z4, z7, z9, z10, z11, z12, rfl, sb2, ⟨ub, eb, pb, nb⟩, ⟨uc, ec, pc, nc⟩⟩ := hP
          obtain ⟨I3, hrow, hinv, _⟩ := CfM.pass_fold (q := CfM.quo (CfM.fnd c1 coefs free) pv0) hpw ((CfM.nz c1 coefs free).take i) c1 v1 I2 ((CfM.nz_nodup hnd).sublist (List.take_sublist _ _)) (fun a ha => hlt a (CfM.mem_nz.mp (List.mem_of_mem_take ha)).1)
          have hi : i < ts.length := by
            have := (List.getElem?_eq_some_iff.mp hx).1
            rwa [List.length_map] at this
          have hin : i < (CfM.nz c1 coefs free).length := by omega
          have hnza : (CfM.nz c1 coefs free)[i]? = some (CfM.nz c1 coefs free)[i] := List.getElem?_eq_getElem hin
          have hma : (CfM.nz c1 coefs free)[i] ∈ CfM.nz c1 coefs free := List.getElem_mem hin
          have etk : (CfM.nz c1 coefs free).take (i + 1) = (CfM.nz c1 coefs free).take i ++ [(CfM.nz c1 coefs free)[i]] := List.take_succ_eq_append_getElem hin
          generalize (CfM.nz c1 coefs free)[i] = a at hnza hma etk
          have haf := (CfM.mem_nz.mp hma).1
          have haw := hlt a haf
          have elf : (p0 :: p1 :: ps)[i]? = some (CfM.absI (CfM.dot coefs (CfM.row c1 a)), (a : Int)) := by
            rw [← hlf, CfM.lft_nz, List.getElem?_map, hnza]
            rfl
          obtain ⟨T', eT', hT'⟩ := paired_ref hts elf
          have ex : x = V.ref T' := by
            rw [List.getElem?_map, eT'] at hx
            exact (Option.some.inj hx).symm
          subst ex
          have hT2 : H' T' = some (.tup [.int (CfM.absI (CfM.dot coefs (CfM.row c1 a))), .int (a : Int)]) := sb2 T' _ (ne_of hT' eb5 (by intro z; cases z)) (ne_of hT' ec5 (by intro z; cases z)) hT'
          refine ⟨T', _, rfl, .inl (.inl hT2), rfl, _, _, rfl, _, _, rfl, rfl, ?_⟩
          refine ⟨.int (a : Int), rfl, .int (pv0 : Int), rfl, rfl, _, rfl, ?_⟩
          rw [etk, List.foldl_append, List.foldl_cons, List.foldl_nil]
          generalize ((CfM.nz c1 coefs free).take i).foldl (CfM.stepT (CfM.quo (CfM.fnd c1 coefs free) pv0) pv0) (c1, v1) = st at *
          by_cases hap : a = pv0
          · rw [decide_eq_true (by rw [hap])]
            have est : CfM.stepT (CfM.quo (CfM.fnd c1 coefs free) pv0) pv0 st a = st := if_pos hap
            rw [est]
            exact ⟨_, _, _, _, _, _, rfl, sb2, ⟨ub, eb, pb, nb⟩, ⟨uc, ec, pc, nc⟩⟩
          · have nVV : ¬ (V.int (a : Int) = V.int (pv0 : Int)) := fun z => hap (by have := V.int.inj z; omega)
            rw [decide_eq_false nVV]
            refine iteT ?_
            have est : CfM.stepT (CfM.quo (CfM.fnd c1 coefs free) pv0) pv0 st a = CfM.opT pv0 st a (CfM.quo (CfM.fnd c1 coefs free) pv0 a) := if_neg hap
            rw [est]
            unfold CfM.opT
            have hD' : H' D = some (.dK (encD (CfM.fnd c1 coefs free))) := sb2 D _ nDb nDc eD5
            have dg : ∀ a ∈ free, DGet H' D (.int (a : Int)) (some (.int (CfM.lk (CfM.fnd c1 coefs free) a))) := fun a ha => by
              have z := DGet.k (k := Sum.inl (a : Int)) hD'
              rw [valV_enc (hasK a ha)] at z
              exact z
            -- often
            refine ⟨.ref D, rfl, .int (a : Int), rfl, D, _, rfl, dg a haf, .ref D, rfl, .int (pv0 : Int), rfl, D, _, rfl, dg pv0 hpf, _, _, rfl, rfl, by rw [lkp]; exact hp0, ?_⟩
            have hqa := hq a haf
            have hac : a < st.1.length := by rw [I3.wc.len]; exact haw
            have hpc : pv0 < st.1.length := by rw [I3.wc.len]; exact hpw
            have hav : a < st.2.length := by rw [I3.wi.len]; exact haw
            have hpv : pv0 < st.2.length := by rw [I3.wi.len]; exact hpw
            have lub := Paired.length pb
            have luc := Paired.length pc
            obtain ⟨ta, et, eta⟩ := mat_row pb hac
            obtain ⟨tp, et2, etp⟩ := mat_row pb hpc
            have la := I3.wc.row haw
            have lp := I3.wc.row hpw
            have erp : CfM.row st.1 pv0 = CfM.row c1 pv0 := by rw [hrow, if_neg (fun z => z.2 rfl)]
            -- columns[at] = ..
            refine ⟨.ref b, rfl, .int (a : Int), rfl, b, _, (a : Int), .ref ta, rfl, rfl, .inl (.inl eb), atI_nat (by rw [List.getElem?_map, et]; rfl), ?_⟩
            refine ⟨.ref b, rfl, .int (pv0 : Int), rfl, b, _, (pv0 : Int), .ref tp, rfl, rfl, .inl (.inl eb), atI_nat (by rw [List.getElem?_map, et2]; rfl), ?_⟩
            refine ⟨false, false, ta, tp, _, _, rfl, .inl (.inl eta), .inl (.inl etp), fun Dn hDn => ?_⟩
            have nDn : N Dn := hN _ (none_but2 ((s2.trans (But2.of s25)).trans sb2) eb ec hDn)
            refine lc_zipI (K := K) (t := false) (u := false) (fun x y => x - (CfM.quo (CfM.fnd c1 coefs free) pv0 a) * y) (.inl (.inl eta)) (.inl (.inl etp)) (by omega) hDn (fun _ _ => rfl) (fun n x y H6 post e1 e2 s6 hpost => ?_) (fun H6 s6 e6 => ?_)
            · have b2 := bC pv0 hpf n
              unfold CfM.ent at b2
              rw [← erp, g_some e2] at b2
              exact ⟨.int x, rfl, .int (CfM.quo (CfM.fnd c1 coefs free) pv0 a), rfl, .int y, rfl, (CfM.quo (CfM.fnd c1 coefs free) pv0 a), y, rfl, rfl, cmul_of hqa b2 (by omega), x, _, rfl, rfl, hpost⟩
            rw [zip_sub] at e6
            have eb6 := s6 _ _ eb
            refine ⟨.ref b, rfl, .int (a : Int), rfl, b, ub.map V.ref, (a : Int), a, rfl, rfl, eb6, ixN_nat (by rw [List.length_map]; omega), ?_⟩
            rw [show (ub.map V.ref).set a (.ref Dn) = (ub.set a Dn).map V.ref from (List.map_set ..).symm]
            have ubn : ub ≠ [] := by intro z; rw [z] at lub; have : 0 < st.1.length := by omega
                                     simp at lub; omega
            have ucn : uc ≠ [] := by intro z; rw [z] at luc; have : 0 < st.2.length := by omega
                                     simp at luc; omega
            have ec6 := s6 _ _ ec
            have pb6 := mat_set (i := a) (mat_same s6 pb) e6
            have usn : ub.set a Dn ≠ [] := fun z => ubn (by simpa using z)
            have ob := mat_off eb6 ubn pb6
            have oc := mat_off ec6 ucn pb6
            have pc6 := mat_same s6 pc
            have obc := mat_off eb6 ubn pc6
            have occ := mat_off ec6 ucn pc6
            have sb6 : But2 b c H5 (upd H6 b (.lst ((ub.set a Dn).map V.ref))) := (sb2.trans (But2.of s6)).trans But2.one
            have pb7 := mat_but (But2.one (c := c) (o := .lst ((ub.set a Dn).map V.ref))) ob oc pb6
            have pc7 := mat_but (But2.one (c := c) (o := .lst ((ub.set a Dn).map V.ref))) obc occ pc6
            have eb7 : (upd H6 b (.lst ((ub.set a Dn).map V.ref))) b = some (.lst ((ub.set a Dn).map V.ref)) := upd_same
            have ec7 : (upd H6 b (.lst ((ub.set a Dn).map V.ref))) c = some (.lst (uc.map V.ref)) := by rw [upd_ne (Ne.symm hbc)]; exact ec6
            generalize upd H6 b (.lst ((ub.set a Dn).map V.ref)) = H7 at *
            -- inverse[pivot] = ..
            obtain ⟨tq, et3, etq⟩ := mat_row pc7 hpv
            obtain ⟨ta2, et4, eta2⟩ := mat_row pc7 hav
            have la2 := I3.wi.row haw
            have lp2 := I3.wi.row hpw
            refine ⟨.ref c, rfl, .int (pv0 : Int), rfl, c, _, (pv0 : Int), .ref tq, rfl, rfl, .inl (.inl ec7), atI_nat (by rw [List.getElem?_map, et3]; rfl), ?_⟩
            refine ⟨.ref c, rfl, .int (a : Int), rfl, c, _, (a : Int), .ref ta2, rfl, rfl, .inl (.inl ec7), atI_nat (by rw [List.getElem?_map, et4]; rfl), ?_⟩
            refine ⟨false, false, tq, ta2, _, _, rfl, .inl (.inl etq), .inl (.inl eta2), fun Dm hDm => ?_⟩
            have nDm : N Dm := hN _ (none_but2 ((s2.trans (But2.of s25)).trans sb6) eb7 ec7 hDm)
            refine lc_zipI (K := K) (t := false) (u := false) (fun x y => x + (CfM.quo (CfM.fnd c1 coefs free) pv0 a) * y) (.inl (.inl etq)) (.inl (.inl eta2)) (by omega) hDm (fun _ _ => rfl) (fun n x y H8 post e1 e2 s8 hpost => ?_) (fun H8 s8 e8 => ?_)
            · have b2 := bI a n
              unfold CfM.ent at b2
              rw [← hinv a hap, g_some e2] at b2
              exact ⟨.int x, rfl, .int (CfM.quo (CfM.fnd c1 coefs free) pv0 a), rfl, .int y, rfl, (CfM.quo (CfM.fnd c1 coefs free) pv0 a), y, rfl, rfl, cmul_of hqa b2 (by omega), x, _, rfl, rfl, hpost⟩
            have ec8 := s8 _ _ ec7
            have eb8 := s8 _ _ eb7
            refine ⟨.ref c, rfl, .int (pv0 : Int), rfl, c, uc.map V.ref, (pv0 : Int), pv0, rfl, rfl, ec8, ixN_nat (by rw [List.length_map]; omega), ?_⟩
            rw [show (uc.map V.ref).set pv0 (.ref Dm) = (uc.set pv0 Dm).map V.ref from (List.map_set ..).symm]
            have pc8 := mat_set (i := pv0) (mat_same s8 pc7) e8
            have pb8 := mat_same s8 pb7
            have o1 := mat_off eb8 usn pc8
            have o2 := mat_off ec8 ucn pc8
            have o3 := mat_off eb8 usn pb8
            have o4 := mat_off ec8 ucn pb8
            have pc9 := mat_but (But2.two (b := b) (o := .lst ((uc.set pv0 Dm).map V.ref))) o1 o2 pc8
            have pb9 := mat_but (But2.two (b := b) (o := .lst ((uc.set pv0 Dm).map V.ref))) o3 o4 pb8
            exact ⟨_, _, _, _, _, _, rfl, (sb6.trans (But2.of s8)).trans But2.two, ⟨_, by rw [upd_ne hbc]; exact eb8, pb9, set_all nb nDn⟩, ⟨_, upd_same, pc9, set_all nc nDm⟩⟩
        · obtain ⟨z4, z7, z9, z10, z11, z12, rfl, sb2, hbm, hcm⟩ := hP
          rw [List.length_map, llft, List.take_length] at hbm hcm
          obtain ⟨I3, _⟩ := CfM.pass_fold (q := CfM.quo (CfM.fnd c1 coefs free) pv0) hpw (CfM.nz c1 coefs free) c1 v1 I2 (CfM.nz_nodup hnd) (fun a ha => hlt a (CfM.mem_nz.mp ha).1)
          have F3 := CfM.pass_fuel I2 hpm hpmin hlt hnd (by rw [← llft]; exact l2) hF2
          refine ⟨m', Nat.lt_succ_self _, j + 1, _, _, _, _, _, _, _, _, _, _, _, rfl, (s2.trans (But2.of s25)).trans sb2, hbm, hcm, I3, fun n => ?_, F3, by omega⟩
          rw [show j + 1 + n = j + (n + 1) by omega, hj]
          obtain ⟨pv1, _, _, em1, es1⟩ := CfM.turnF_pivot n c1 v1 free coefs hlf
          have : pv1 = pv0 := by
            rw [emin] at em1
            have := congrArg Prod.snd em1
            simp at this
            omega
          rw [es1, this]
end
end CfW

namespace CfW
open PySem PySem.Spec PyProof.Rows L2 CfX
abbrev nWeighed : List Str := ["many", "pins", "products", "number", "weights", "often", "left", "at", "place", "whole", "others", "value", "part", "pin", "amount", "row", "weight"]
theorem scWeighed : FnScope nWeighed ["many", "pins", "products", "number"] (defScope sWeighed) := ⟨rfl, rfl, rfl, by decide +kernel, rfl, by decide +kernel, by decide +kernel⟩
def PinAt (H : Hp) (t : Addr) (p : CfM.Pin) : Prop := ∃ o, H t = some (.tup [.int (p.at_ : Int), .int (p.place : Int), .int p.whole, .ref o, .int p.value]) ∧ H o = some (.dK (encD p.others))
def PinsAt (H : Hp) (pl : Addr) (pins : List CfM.Pin) : Prop := ∃ ts : List Addr, H pl = some (.lst (ts.map V.ref)) ∧ Paired (PinAt H) ts pins
theorem PinAt.same {H H' : Hp} {t : Addr} {p : CfM.Pin} (s : Same H H') (h : PinAt H t p) : PinAt H' t p := by
  obtain ⟨o, a, b⟩ := h
  exact ⟨o, s _ _ a, s _ _ b⟩
theorem PinsAt.same {H H' : Hp} {pl : Addr} {pins : List CfM.Pin} (s : Same H H') (h : PinsAt H pl pins) : PinsAt H' pl pins := by
  obtain ⟨ts, a, b⟩ := h
  exact ⟨ts, s _ _ a, Paired.mapP b fun _ _ z => z.same s⟩
theorem lk_in {l : List (Nat × Int)} (hn : (l.map (·.1)).Nodup) {q : Nat × Int} (h : q ∈ l) : CfM.lk l q.1 = q.2 := by
  induction l with
  | nil => cases h
  | cons x l ih =>
    rw [List.map_cons, List.nodup_cons] at hn
    rw [CfM.lk_cons]
    rcases List.mem_cons.mp h with z | z
    · rw [z, if_pos rfl]
    · rw [if_neg (fun e => hn.1 (by rw [e]; exact List.mem_map.mpr ⟨q, z, rfl⟩))]
      exact ih hn.2 z
theorem put_enc {l : List (Nat × Int)} {k : Nat} {d : Int} (hn : (l.map (·.1)).Nodup) (hk : CfM.HasK l k) : putK (encD l) (Sum.inl (k : Int)) (.int (CfM.lk l k + d)) = encD (CfM.addAt l k d) := by
  have ha : ((encD l).any fun kv => decide (kv.1 = (Sum.inl (k : Int) : Key))) = true := by
    obtain ⟨q, hq, e⟩ := List.mem_map.mp hk
    rw [List.any_eq_true]
    refine ⟨(Sum.inl (q.1 : Int), V.int q.2), List.mem_map.mpr ⟨q, hq, rfl⟩, ?_⟩
    rw [e]
    simp
  unfold putK
  rw [if_pos ha]
  unfold encD CfM.addAt
  rw [List.map_map, List.map_map]
  apply List.map_congr_left
  intro q hq
  show (if (Sum.inl (q.1 : Int) : Key) = Sum.inl (k : Int) then ((Sum.inl (q.1 : Int) : Key), V.int (CfM.lk l k + d)) else (Sum.inl (q.1 : Int), V.int q.2)) = (Sum.inl (((if q.1 = k then (q.1, q.2 + d) else q).1 : Nat) : Int), V.int (if q.1 = k then (q.1, q.2 + d) else q).2)
  by_cases e : q.1 = k
  · rw [if_pos (by rw [e]), if_pos e, ← e, lk_in hn hq]
  · rw [if_neg (fun z => e (by have := Sum.inl.inj z; omega)), if_neg e]
theorem for_items {d : Addr} {o : Obj} {kvs : List (Key × V)} {g : TG} {tb : TS} {D : Ends} {σ : L2.St} {H : Hp} (Pv : Nat → L2.St → Hp → Prop) (h0 : Pv 0 σ H) (hq : ∀ i σ H, Pv i σ H → H d = some (.frz o (.dK kvs)))
    (hs : ∀ i k x T σ H, kvs[i]? = some (k, x) → Pv i σ H → H T = none → g (.ref T) σ (upd H T (.tup [kV k, x])) fun σ2 H2 => tb { D with nx := Pv (i + 1), ct := Pv (i + 1), bk := D.nx } σ2 H2) (hd : ∀ σ H, Pv kvs.length σ H → D.nx σ H) :
    ∃ W : Nat → Nat → L2.St → Hp → Prop, (∃ m, W 0 m σ H) ∧ ∀ i m σ H, W i m σ H →
      ((Iti d o kvs).stop i H ∧ D.nx σ H) ∨ ((Iti d o kvs).go i H ∧ ∃ N : L2.St → Hp → Prop, (∀ σ' H', N σ' H' → ∃ m', m' < m ∧ W (i + 1) m' σ' H') ∧ ∀ x H', (Iti d o kvs).yld i H x H' → g x σ H' fun σ2 H2 => tb { D with nx := N, ct := N, bk := D.nx } σ2 H2) := by
  refine ⟨fun i m σ H => m = kvs.length - i ∧ i ≤ kvs.length ∧ Pv i σ H, ⟨_, rfl, Nat.zero_le _, h0⟩, ?_⟩
  rintro i m σ H ⟨em, hi, p⟩
  have q := hq i σ H p
  by_cases hlt : i < kvs.length
  · refine .inr ⟨⟨q, hlt⟩, Pv (i + 1), fun σ' H' p' => ⟨_, by omega, rfl, by omega, p'⟩, fun v H' yv => ?_⟩
    obtain ⟨T, k, x, e1, rfl, hT, rfl⟩ := yv
    exact hs i k x T σ H e1 p hT
  · have ei : i = kvs.length := by omega
    refine .inl ⟨⟨q, by omega⟩, hd σ H ?_⟩
    rw [← ei]
    exact p
theorem absE (x : Int) : (if x < 0 then -x else x) = (x.natAbs : Int) := by split <;> omega
theorem rev_pair {R : Addr → CfM.Pin → Prop} {ts : List Addr} {ps : List CfM.Pin} (p : Paired R ts ps) {i : Nat} {v : V} (h : (ts.map V.ref).reverse[i]? = some v) : ∃ t q, v = .ref t ∧ ps.reverse[i]? = some q ∧ q ∈ ps ∧ R t q := by
  have hl := Paired.length p
  have hi := (List.getElem?_eq_some_iff.mp h).1
  rw [List.length_reverse, List.length_map] at hi
  rw [List.getElem?_reverse (by rw [List.length_map]; exact hi), List.getElem?_map, List.length_map] at h
  have e : ts[ts.length - 1 - i]? = some ts[ts.length - 1 - i] := List.getElem?_eq_getElem (by omega)
  rw [e] at h
  obtain ⟨q, eq, r⟩ := paired_get p e
  refine ⟨_, q, (Option.some.inj h).symm, ?_, List.mem_of_getElem? eq, r⟩
  rw [List.getElem?_reverse (by omega), ← hl]
  exact eq
theorem enc_at {l : List (Nat × Int)} {i : Nat} {k : Key} {x : V} (h : (encD l)[i]? = some (k, x)) : ∃ q, l[i]? = some q ∧ k = Sum.inl (q.1 : Int) ∧ x = V.int q.2 := by
  unfold encD at h
  rw [List.getElem?_map] at h
  cases e : l[i]? with
  | none => rw [e] at h; cases h
  | some q => rw [e] at h; cases h; exact ⟨q, rfl, rfl, rfl⟩
theorem enc_len (l : List (Nat × Int)) : (encD l).length = l.length := List.length_map _
def spWeighed : Sp := fun vs H Q _ => ∃ (many number : Nat) (pl pr : Addr) (pins : List CfM.Pin) (products : List (Nat × Int)) (L B : Nat), vs = [.int (many : Int), .ref pl, .ref pr, .int (number : Int)] ∧ number < many ∧ many ≤ 1000 ∧ pins.length ≤ 8 ∧ PinsAt H pl pins ∧
  H pr = some (.dK (encD products)) ∧ (products.map (·.1)).Nodup ∧ products.length ≤ 1000 ∧ (∀ p ∈ pins, p.whole ≠ 0 ∧ p.place < many ∧ CfM.HasK products p.at_ ∧ p.others.length ≤ 1000 ∧ ∀ x ∈ p.others, CfM.HasK products x.1) ∧
  (L + B + 200 ≤ 67000000 ∧ (∀ p ∈ pins, p.whole.natAbs ≤ 2 ^ L ∧ ∀ x ∈ p.others, x.2.natAbs ≤ 2 ^ L) ∧ ∀ i, i ≤ pins.length → CfM.WBd (2 ^ B) ((pins.reverse.take i).foldl CfM.wstep (CfM.wstart many products number)) ∧ ((pins.reverse.take i).foldl CfM.wstep (CfM.wstart many products number)).1.length = many) ∧
  ∀ H' p a, Same H H' → H' p = some (.tup [.ref a, .int (CfM.weighedM many pins products number).2.1]) → H' a = some (.lst ((CfM.weighedM many pins products number).1.map V.int)) → Q (.ref p) H'
section
variable {P : Program} {w : World} {K : PySem.W.Frag} {mg : Str → Option Value} {base : Heap}
theorem ok_weighed {f fC : Addr} {fd fdC : FuncData} {k : Nat} (F : Fun K "weighed" "weighed" sWeighed f fd) (hk : 40 ≤ k) (sb : base.NoSeer) (tr : P.given.tree = none) (FC : FnOk P w K mg base CX0 k fC fdC ["one", "other"] spCommon) (kC : PySem.W.keepIn K (.ref fC) = true) (bC : Binds K fdC ["one", "other"] [])
    (gC : mg "common" = some (.ref fC)) (ma : mg "abs" = none) (md : mg "dict" = none) (mr : mg "reversed" = none) (mg0 : mg "range" = none) : FnOk P w K mg base CX0 (k + 1) f fd ["many", "pins", "products", "number"] spWeighed := by
  refine F.ok scWeighed (fun vs H Q E h => ?_) (fun cdv A outer s H vs Q E hr h => ?_)
  · obtain ⟨_, _, _, _, _, _, _, _, rfl, _⟩ := h
    rfl
  · obtain ⟨many, number, pl, pr, pins, products, L, B, rfl, hnm, hmany, hpl8, hP, hR, hnd, hprl, hpin, ⟨hLB, hLb, hbd⟩, q⟩ := h
    have hpy := room100 hr hk
    have hu := hu_of hr
    refine ⟨_, pss_cons (ps_setLc (i := 4) (own := [("row", 15)]) (g := gName 15) (tt := tYes) rfl scWeighed.nd rfl rfl (sw_true rfl rfl rfl (by decide +kernel)) (pi_range1 (by rfl) mg0 (pa_cons (pv 0) pa_nil)) (blkOk_by (N := nWeighed) (sc := defScope sWeighed) (by decide +kernel))
        (fun _ _ _ _ _ => pg_name (i := 15) scWeighed.nd rfl (Or.inl rfl)) (fun _ _ _ _ _ => pts_nil) (fun _ _ _ _ _ => pe_int))
      (pss_cons (ps_asg2 pe_int (pg_sub (pv 4) (pv 3) set_list) (pg_name (i := 5) scWeighed.nd rfl (Or.inl rfl)))
      (pss_cons (ps_set (i := 6) scWeighed.nd rfl (.inl rfl) (pe_callTy call_dictD (by rfl) md (by decide +kernel) (pa_cons (pv 2) pa_nil)))
      (pss_cons (ps_for PassesOwn.never rfl (pi_reversed (by rfl) mr (pa_cons (pv 1) pa_nil))
          (pg_tup rfl (pgs_cons (pg_name (i := 7) scWeighed.nd rfl (Or.inl rfl)) (pgs_cons (pg_name (i := 8) scWeighed.nd rfl (Or.inl rfl)) (pgs_cons (pg_name (i := 9) scWeighed.nd rfl (Or.inl rfl)) (pgs_cons (pg_name (i := 10) scWeighed.nd rfl (Or.inl rfl)) (pgs_cons (pg_name (i := 11) scWeighed.nd rfl (Or.inl rfl)) pgs_nil))))))
          (pss_cons (ps_set (i := 12) scWeighed.nd rfl (.inr rfl) (pe_op (op_fdivP ⟨sb, tr, hpy, ⟨_, _, rfl, rfl, rfl, rfl, rfl⟩⟩) (pe_callB call_abs (by rfl) ma (by decide +kernel) (pa_cons (pv 9) pa_nil))
              (pe_call FC hr (by rfl) gC kC bC .nil pass0 (pa_cons (pe_callB call_abs (by rfl) ma (by decide +kernel) (pa_cons (pv 9) pa_nil)) (pa_cons (pe_callB call_abs (by rfl) ma (by decide +kernel) (pa_cons (pe_dget hu (pv 6) (pv 7) (fun _ _ => rfl)) pa_nil)) pa_nil)))))
          (pss_cons (ps_aug (i := 5) scWeighed.nd rfl (.inl rfl) (pv 12) ip_mulX)
          (pss_cons (ps_setLc (i := 4) (own := [("weight", 16)]) (g := gName 16) (tt := tYes) rfl scWeighed.nd rfl rfl (sw_true rfl rfl rfl (by decide +kernel)) (pi_list (pv 4)) (blkOk_by (N := nWeighed) (sc := defScope sWeighed) (by decide +kernel))
              (fun _ _ _ _ _ => pg_name (i := 16) scWeighed.nd rfl (Or.inl rfl)) (fun _ _ _ _ _ => pts_nil) (fun _ _ _ _ _ => pe_op op_mulX (pv 12) (pv 16)))
          (pss_cons (ps_lock (ps_setDc (i := 6) (own := [("pin", 13), ("amount", 14)]) (g := gTup K 2 (gCons (gName 13) (gCons (gName 14) gNil))) (tt := tYes) rfl scWeighed.nd rfl rfl (sw_trueD rfl rfl rfl (by decide +kernel)) (pi_items (pv 6)) (blkOk_by (N := nWeighed) (sc := defScope sWeighed) (by decide +kernel))
              (fun _ _ _ _ _ => pg_tup rfl (pgs_cons (pg_name (i := 13) scWeighed.nd rfl (Or.inl rfl)) (pgs_cons (pg_name (i := 14) scWeighed.nd rfl (Or.inl rfl)) pgs_nil))) (fun _ _ _ _ _ => pts_nil)
              (fun _ _ _ _ _ => pv 13) (fun _ _ _ _ _ => pe_op op_mulX (pv 12) (pv 14))))
          (pss_cons (ps_asg (pe_op (op_fdivP ⟨sb, tr, hpy, ⟨_, _, rfl, rfl, rfl, rfl, rfl⟩⟩) (pe_un un_neg (pe_dget hu (pv 6) (pv 7) (fun _ _ => rfl))) (pv 9)) (pg_sub (pv 4) (pv 8) set_list))
          (pss_one (ps_lock (ps_for PassesOwn.never rfl (pi_items (pv 10)) (pg_tup rfl (pgs_cons (pg_name (i := 13) scWeighed.nd rfl (Or.inl rfl)) (pgs_cons (pg_name (i := 14) scWeighed.nd rfl (Or.inl rfl)) pgs_nil)))
              (pss_one (ps_daug hu (pv 6) (pv 13) (pe_op op_mulX (pe_ix ix_list (pv 4) (pv 8) (fun _ _ => rfl)) (pv 14)) in_add (fun _ _ _ => rfl))))))))))))
      (pss_one (ps_ret (pe_tup (pa_cons (pv 4) (pa_cons (pv 5) pa_nil)))))))), ?_⟩
    obtain ⟨ts, eP, pP⟩ := hP
    have lts := Paired.length pP
    -- weights = [0 for row in range(many)]
    refine ⟨.int (many : Int), rfl, (many : Int), rfl, by omega, by omega, fun W hW => ?_⟩
    rw [Int.toNat_natCast]
    refine lc_rangeI (fun _ => 0) hmany hW (fun _ => rfl) (fun i H3 post hi s hp => hp) (fun H2 s2 eW => ?_)
    -- weights[number] = often = 1
    refine ⟨.ref W, rfl, .int (number : Int), rfl, W, _, (number : Int), number, rfl, rfl, eW, ixN_nat (by simp; exact hnm), ?_⟩
    have s3 : Same H (upd H2 W (.lst ((((List.range many).map fun _ => (0 : Int)).map V.int).set number (.int 1)))) := same_own s2 hW
    have eW3 : (upd H2 W (.lst ((((List.range many).map fun _ => (0 : Int)).map V.int).set number (.int 1)))) W = some (.lst ((CfM.wstart many products number).1.map V.int)) := by
      rw [upd_same]
      congr 2
      show _ = (((List.replicate many (0 : Int)).set number 1).map V.int)
      rw [List.map_set]
      congr 2
      rw [List.map_const', List.length_range]
    generalize upd H2 W (.lst ((((List.range many).map fun _ => (0 : Int)).map V.int).set number (.int 1))) = H3 at s3 eW3
    -- left = dict(products)
    refine ⟨.ref pr, rfl, pr, _, rfl, .inl (s3 _ _ hR), fun D hD => ?_⟩
    have nWD : W ≠ D := ne_of_none eW3 hD
    have hD0 : H D = none := by
      cases e : H D with
      | none => rfl
      | some o => rw [s3 _ _ e] at hD; cases hD
    have s4 : Same H (upd H3 D (.dK (encD products))) := s3.trans (same_upd hD)
    have eW4 : (upd H3 D (.dK (encD products))) W = some (.lst ((CfM.wstart many products number).1.map V.int)) := by rw [upd_ne nWD]; exact eW3
    have eD4 : (upd H3 D (.dK (encD products))) D = some (.dK (encD products)) := upd_same
    generalize upd H3 D (.dK (encD products)) = H4 at s4 eW4 eD4
    -- for at, place, whole, others, value in reversed(pins)
    refine ⟨.ref pl, rfl, pl, ts.map V.ref, rfl, .inl (.inl (s4 _ _ eP)), ?_⟩
    refine for_rev (fun i σ H' => ∃ (W D : Addr) (y7 y8 y9 y10 y11 y12 y13 y14 y15 y16 : Option V), σ = [some (.int (many : Int)), some (.ref pl), some (.ref pr), some (.int (number : Int)), some (.ref W), some (.int ((pins.reverse.take i).foldl CfM.wstep (CfM.wstart many products number)).2.1), some (.ref D), y7, y8, y9, y10, y11, y12, y13, y14, y15, y16] ∧ Same H H' ∧ H W = none ∧ H D = none ∧ W ≠ D ∧
      H' W = some (.lst (((pins.reverse.take i).foldl CfM.wstep (CfM.wstart many products number)).1.map V.int)) ∧ H' D = some (.dK (encD ((pins.reverse.take i).foldl CfM.wstep (CfM.wstart many products number)).2.2)) ∧ ((pins.reverse.take i).foldl CfM.wstep (CfM.wstart many products number)).2.2.map (·.1) = products.map (·.1))
      ⟨W, D, _, _, _, _, _, _, _, _, _, _, rfl, s4, hW, hD0, nWD, eW4, eD4, rfl⟩ (fun i σ H' hi hP => ?_) (fun i v σ H' hv hP => ?_) (fun σ H' hP => ?_)
    · obtain ⟨_, _, _, _, _, _, _, _, _, _, _, _, _, sm, _⟩ := hP
      exact .inl (.inl (sm _ _ eP))
    · obtain ⟨W, D, y7, y8, y9, y10, y11, y12, y13, y14, y15, y16, rfl, sm, nW, nD, nWD, eW, eD, eK⟩ := hP
      obtain ⟨T, p, rfl, ep, hpm, o, eT, eo⟩ := rev_pair pP hv
      obtain ⟨h0, hpl, hka, hol, hok⟩ := hpin p hpm
      obtain ⟨hLw, hLo⟩ := hLb p hpm
      have hi : i < pins.length := by
        have := (List.getElem?_eq_some_iff.mp ep).1
        rwa [List.length_reverse] at this
      obtain ⟨B0, len0⟩ := hbd i (by omega)
      obtain ⟨B1, len1⟩ := hbd (i + 1) hi
      have etk : pins.reverse.take (i + 1) = pins.reverse.take i ++ [p] := by rw [List.take_add_one, ep]; rfl
      have est : (pins.reverse.take (i + 1)).foldl CfM.wstep (CfM.wstart many products number) = CfM.wstep ((pins.reverse.take i).foldl CfM.wstep (CfM.wstart many products number)) p := by rw [etk, List.foldl_append]; rfl
      rw [est] at B1 len1
      rw [est]
      generalize (pins.reverse.take i).foldl CfM.wstep (CfM.wstart many products number) = st at *
      have hnd2 : (st.2.2.map (·.1)).Nodup := by rw [eK]; exact hnd
      have hk2 : ∀ a, CfM.HasK products a → CfM.HasK st.2.2 a := fun a ha => by unfold CfM.HasK at *; rw [eK]; exact ha
      have hl2 : st.2.2.length ≤ 1000 := by
        have := congrArg List.length eK
        rw [List.length_map, List.length_map] at this
        omega
      have hpart : (CfM.partOf p st).natAbs ≤ 2 ^ L := CfM.part_le h0 hLw
      have hwOf : (CfM.wOf p st).natAbs ≤ 2 ^ L * 2 ^ B := CfM.wOf_le h0 hLw B0
      rw [← Nat.pow_add] at hwOf
      have hgcd : ((Nat.gcd p.whole.natAbs (CfM.lk st.2.2 p.at_).natAbs : Nat) : Int) ≠ 0 := by
        have := Nat.gcd_pos_of_pos_left (CfM.lk st.2.2 p.at_).natAbs (show 0 < p.whole.natAbs by omega)
        omega
      refine ⟨T, _, rfl, .inl (.inl (sm _ _ eT)), rfl, _, _, rfl, _, _, rfl, _, _, rfl, _, _, rfl, _, _, rfl, rfl, ?_⟩
      have dg : ∀ {H5 : Hp} {D5 : Addr} {l : List (Nat × Int)} {a : Nat}, H5 D5 = some (.dK (encD l)) → CfM.HasK l a → DGet H5 D5 (.int (a : Int)) (some (.int (CfM.lk l a))) := fun {H5 D5 l a} e ha => by
        have z := DGet.k (k := Sum.inl (a : Int)) e
        rw [valV_enc ha] at z
        exact z
      -- part
      refine ⟨.int p.whole, rfl, p.whole, rfl, .int p.whole, rfl, p.whole, rfl, .ref D, rfl, .int (p.at_ : Int), rfl, D, _, rfl, dg eD (hk2 _ hka), _, rfl, ?_⟩
      refine ⟨(p.whole.natAbs : Int), ((CfM.lk st.2.2 p.at_).natAbs : Int), by rw [absE, absE]; rfl, by omega, by omega, (p.whole.natAbs : Int), ((Nat.gcd p.whole.natAbs (CfM.lk st.2.2 p.at_).natAbs : Nat) : Int), by rw [absE], rfl, hgcd, ?_⟩
      -- often *= part
      refine ⟨_, rfl, _, rfl, st.2.1, CfM.partOf p st, rfl, rfl, cmul_of B0.often hpart (by omega), ?_⟩
      -- weights
      refine ⟨.ref W, rfl, W, rfl, ⟨_, .inl (.inl eW)⟩, fun W2 hW2 => ?_⟩
      refine lc_mapI (goes_list (K := K) (.inl (.inl eW))) (fun x => CfM.partOf p st * x) (by omega) hW2 (fun _ => rfl) (fun n x H5 post ex s5 hp => ?_) (fun H5 s5 eW2 => ?_)
      · have b := B0.ws n
        rw [g_some ex] at b
        exact ⟨.int (CfM.partOf p st), rfl, .int x, rfl, CfM.partOf p st, x, rfl, rfl, cmul_of hpart b (by omega), hp⟩
      have eD5 := s5 _ _ eD
      -- left
      refine ⟨D, _, eD5, True.intro, fun od => ?_⟩
      refine ⟨.ref D, rfl, D, od, encD st.2.2, rfl, upd_same, fun D2 hD2 => ?_⟩
      have nDD : D2 ≠ D := fun z => by rw [z, upd_same] at hD2; cases hD2
      have hD25 : H5 D2 = none := by rw [upd_ne nDD] at hD2; exact hD2
      refine dc_by (goes_items upd_same) hD2 (by rw [enc_len]; omega) (fun j => Sum.inl (((st.2.2.getD j (0, 0)).1 : Nat) : Int)) (fun j j' hj hj' e => ?_) (fun j z _ => ∃ q, st.2.2[j]? = some q ∧ z = .int (CfM.partOf p st * q.2)) (fun _ _ _ _ _ h => h) (fun j v H6 hj s6 hacc it post hp => ?_) (fun H6 kvs s6 eD6 hkl hkv => ?_)
      · rw [enc_len] at hj hj'
        have e3 := Sum.inl.inj e
        rw [List.getD_eq_getElem?_getD, List.getD_eq_getElem?_getD, List.getElem?_eq_getElem hj, List.getElem?_eq_getElem hj'] at e3
        refine nd_at hnd2 (i := j) (j := j') (by rw [List.length_map]; exact hj) (by rw [List.length_map]; exact hj') ?_
        rw [List.getElem_map, List.getElem_map]
        exact Int.ofNat.inj e3
      · obtain ⟨T2, ky, x, rfl, eT2, ekx⟩ := it
        obtain ⟨q2, eq2, rfl, rfl⟩ := enc_at ekx
        have b := B0.left q2 (List.mem_of_getElem? eq2)
        have z := hp (.int (CfM.partOf p st * q2.2)) H6 (Same.refl _) ⟨q2, eq2, rfl⟩
        rw [List.getD_eq_getElem?_getD, eq2] at z
        exact ⟨T2, _, rfl, .inl (.inl eT2), rfl, _, _, rfl, _, _, rfl, rfl, rfl, _, rfl, .int (CfM.partOf p st), rfl, .int q2.2, rfl, CfM.partOf p st, q2.2, rfl, rfl, cmul_of hpart b (by omega), z⟩
      have ekvs : kvs = encD (st.2.2.map fun x => (x.1, CfM.partOf p st * x.2)) := by
        refine enc_eq (by rw [hkl, enc_len, List.length_map]) fun j z hz => ?_
        obtain ⟨e1, q2, eq2, e2⟩ := hkv j z hz
        refine ⟨(q2.1, CfM.partOf p st * q2.2), by rw [List.getElem?_map, eq2]; rfl, ?_, e2⟩
        rw [e1, List.getD_eq_getElem?_getD, eq2]
        rfl
      subst ekvs
      have eD7 := s6 D _ upd_same
      refine ⟨eD7, ?_⟩
      have s57 : Same H5 (upd H6 D (.dK (encD st.2.2))) := fun a x e => by
        by_cases ha : a = D
        · rw [ha, upd_same]
          rw [ha, eD5] at e
          exact e
        · rw [upd_ne ha]
          exact s6 a x (by rw [upd_ne ha]; exact e)
      have eD8 : (upd H6 D (.dK (encD st.2.2))) D2 = some (.dK (encD (st.2.2.map fun x => (x.1, CfM.partOf p st * x.2)))) := by rw [upd_ne nDD]; exact eD6
      generalize upd H6 D (.dK (encD st.2.2)) = H7 at s57 eD8
      have s7 : Same H H7 := (sm.trans s5).trans s57
      have hW20 : H W2 = none := by
        cases e : H W2 with
        | none => rfl
        | some z => rw [sm _ _ e] at hW2; cases hW2
      have hD20 : H D2 = none := by
        cases e : H D2 with
        | none => rfl
        | some z => rw [s5 _ _ (sm _ _ e)] at hD25; cases hD25
      have nWD2 : W2 ≠ D2 := ne_of_none eW2 hD25
      have eW7 := s57 _ _ eW2
      have hkm : CfM.HasK (st.2.2.map fun x => (x.1, CfM.partOf p st * x.2)) p.at_ := by
        unfold CfM.HasK
        rw [CfM.map_keys]
        exact hk2 _ hka
      -- weights[place]
      refine ⟨.ref D2, rfl, .int (p.at_ : Int), rfl, D2, _, rfl, dg eD8 hkm, _, rfl, ?_⟩
      refine ⟨.int p.whole, rfl, _, p.whole, rfl, rfl, h0, ?_⟩
      refine ⟨.ref W2, rfl, .int (p.place : Int), rfl, W2, _, (p.place : Int), p.place, rfl, rfl, eW7, ixN_nat (by rw [List.length_map, List.length_map]; omega), ?_⟩
      have eW9 : (upd H7 W2 (.lst (((st.1.map fun x => CfM.partOf p st * x).map V.int).set p.place (.int (CfM.wOf p st))))) W2 = some (.lst ((CfM.wstep st p).1.map V.int)) := by
        rw [upd_same, ← List.map_set]
        rfl
      have s9 : Same H (upd H7 W2 (.lst (((st.1.map fun x => CfM.partOf p st * x).map V.int).set p.place (.int (CfM.wOf p st))))) := same_own s7 hW20
      have eD9 : (upd H7 W2 (.lst (((st.1.map fun x => CfM.partOf p st * x).map V.int).set p.place (.int (CfM.wOf p st))))) D2 = some (.dK (encD (st.2.2.map fun x => (x.1, CfM.partOf p st * x.2)))) := by rw [upd_ne (Ne.symm nWD2)]; exact eD8
      -- for pin, amount in others.items()
      have eo9 := s9 _ _ eo
      have noW : o ≠ W2 := fun z => by rw [z, hW20] at eo; cases eo
      have noD : o ≠ D2 := fun z => by rw [z, hD20] at eo; cases eo
      refine ⟨o, _, eo9, True.intro, fun od2 => ?_⟩
      refine ⟨.ref o, rfl, o, od2, encD p.others, rfl, upd_same, ?_⟩
      have gW : CfM.g (CfM.wstep st p).1 p.place = CfM.wOf p st := by
        unfold CfM.wstep
        rw [CfM.g_set (by rw [List.length_map]; omega), if_pos rfl]
      have eWp : ((CfM.wstep st p).1.map V.int)[p.place]? = some (.int (CfM.wOf p st)) := by
        rw [List.getElem?_map, List.getElem?_eq_getElem (by omega)]
        have : (CfM.wstep st p).1[p.place]'(by omega) = CfM.wOf p st := by
          rw [← gW]
          unfold CfM.g
          rw [List.getD_eq_getElem?_getD, List.getElem?_eq_getElem (by omega)]
          rfl
        rw [this]
        rfl
      refine for_items (fun j σ H' => ∃ z13 z14 : Option V, σ = [some (.int (many : Int)), some (.ref pl), some (.ref pr), some (.int (number : Int)), some (.ref W2), some (.int (CfM.wstep st p).2.1), some (.ref D2), some (.int (p.at_ : Int)), some (.int (p.place : Int)), some (.int p.whole), some (.ref o), some (.int p.value), some (.int (CfM.partOf p st)), z13, z14, y15, y16] ∧
          (∀ a x, a ≠ o → H a = some x → H' a = some x) ∧ H' o = some (.frz od2 (.dK (encD p.others))) ∧ H' W2 = some (.lst ((CfM.wstep st p).1.map V.int)) ∧ H' D2 = some (.dK (encD ((p.others.take j).foldl (fun l x => CfM.addAt l x.1 (CfM.wOf p st * x.2)) (st.2.2.map fun x => (x.1, CfM.partOf p st * x.2))))))
        ⟨_, _, rfl, fun a x na e => by rw [upd_ne na]; exact s9 a x e, upd_same, by rw [upd_ne (Ne.symm noW)]; exact eW9, by rw [upd_ne (Ne.symm noD)]; exact eD9⟩ (fun j σ H' h => by
          obtain ⟨_, _, _, _, e, _⟩ := h
          exact e) (fun j k x T2 σ H' hx h hT2 => ?_) (fun σ H' h => ?_)
      · obtain ⟨z13, z14, rfl, bo, eo', eW', eD'⟩ := h
        obtain ⟨q2, eq2, rfl, rfl⟩ := enc_at hx
        have hq2 := List.mem_of_getElem? eq2
        have nTo := ne_of_none eo' hT2
        have nTW := ne_of_none eW' hT2
        have nTD := ne_of_none eD' hT2
        refine ⟨T2, _, rfl, .inl (.inl upd_same), rfl, _, _, rfl, _, _, rfl, rfl, ?_⟩
        have hkj : CfM.HasK ((p.others.take j).foldl (fun l x => CfM.addAt l x.1 (CfM.wOf p st * x.2)) (st.2.2.map fun x => (x.1, CfM.partOf p st * x.2))) q2.1 := by
          unfold CfM.HasK
          rw [CfM.addAll_keys, CfM.map_keys]
          exact hk2 _ (hok q2 hq2)
        have hndj : (((p.others.take j).foldl (fun l x => CfM.addAt l x.1 (CfM.wOf p st * x.2)) (st.2.2.map fun x => (x.1, CfM.partOf p st * x.2))).map (·.1)).Nodup := by
          rw [CfM.addAll_keys, CfM.map_keys]
          exact hnd2
        have hlj : ((p.others.take j).foldl (fun l x => CfM.addAt l x.1 (CfM.wOf p st * x.2)) (st.2.2.map fun x => (x.1, CfM.partOf p st * x.2))).length ≤ 1000 := by
          have e := congrArg List.length (CfM.addAll_keys (w := CfM.wOf p st) (p.others.take j) (st.2.2.map fun x => (x.1, CfM.partOf p st * x.2)))
          rw [CfM.map_keys, List.length_map, List.length_map] at e
          omega
        have etj : (p.others.take (j + 1)).foldl (fun l x => CfM.addAt l x.1 (CfM.wOf p st * x.2)) (st.2.2.map fun x => (x.1, CfM.partOf p st * x.2)) = CfM.addAt ((p.others.take j).foldl (fun l x => CfM.addAt l x.1 (CfM.wOf p st * x.2)) (st.2.2.map fun x => (x.1, CfM.partOf p st * x.2))) q2.1 (CfM.wOf p st * q2.2) := by
          rw [List.take_add_one, eq2, List.foldl_append]
          rfl
        rw [etj]
        generalize (p.others.take j).foldl (fun l x => CfM.addAt l x.1 (CfM.wOf p st * x.2)) (st.2.2.map fun x => (x.1, CfM.partOf p st * x.2)) = lj at *
        have eD2 : (upd H' T2 (.tup [kV (Sum.inl (q2.1 : Int)), .int q2.2])) D2 = some (.dK (encD lj)) := by rw [upd_ne nTD]; exact eD'
        have eW2' : (upd H' T2 (.tup [kV (Sum.inl (q2.1 : Int)), .int q2.2])) W2 = some (.lst ((CfM.wstep st p).1.map V.int)) := by rw [upd_ne nTW]; exact eW'
        have eo2' : (upd H' T2 (.tup [kV (Sum.inl (q2.1 : Int)), .int q2.2])) o = some (.frz od2 (.dK (encD p.others))) := by rw [upd_ne nTo]; exact eo'
        have b2' : ∀ a x, a ≠ o → H a = some x → (upd H' T2 (.tup [kV (Sum.inl (q2.1 : Int)), .int q2.2])) a = some x := fun a x na e => by
          rw [upd_ne (ne_of_none (bo a x na e) hT2)]
          exact bo a x na e
        generalize upd H' T2 (.tup [kV (Sum.inl (q2.1 : Int)), .int q2.2]) = H10 at *
        refine ⟨.ref D2, rfl, .int (q2.1 : Int), rfl, D2, _, rfl, dg eD2 hkj, ?_⟩
        refine ⟨.ref W2, rfl, .int (p.place : Int), rfl, W2, _, (p.place : Int), .int (CfM.wOf p st), rfl, rfl, .inl (.inl eW2'), atI_nat eWp, .int q2.2, rfl, CfM.wOf p st, q2.2, rfl, rfl, cmul_of hwOf (hLo q2 hq2) (by omega), ?_⟩
        refine ⟨CfM.lk lj q2.1, CfM.wOf p st * q2.2, rfl, rfl, _, DPut.k (k := Sum.inl (q2.1 : Int)) eD2 (by rw [enc_len]; exact small1000 hlj), ?_⟩
        rw [put_enc hndj hkj]
        exact ⟨_, _, rfl, fun a x na e => by
          rw [upd_ne (fun z => by rw [z, hD20] at e; cases e)]
          exact b2' a x na e, by rw [upd_ne noD]; exact eo2', by rw [upd_ne nWD2]; exact eW2', upd_same⟩
      · obtain ⟨z13, z14, rfl, bo, eo', eW', eD'⟩ := h
        rw [enc_len, List.take_length] at eD'
        refine ⟨eo', ?_⟩
        refine ⟨W2, D2, _, _, _, _, _, _, _, _, _, _, rfl, fun a x e => ?_, hW20, hD20, nWD2, by rw [upd_ne (Ne.symm noW)]; exact eW', by rw [upd_ne (Ne.symm noD)]; exact eD', ?_⟩
        · by_cases ha : a = o
          · rw [ha, upd_same]
            rw [ha, eo] at e
            exact e
          · rw [upd_ne ha]
            exact bo a x ha e
        · show ((p.others.foldl (fun l x => CfM.addAt l x.1 (CfM.wOf p st * x.2)) (st.2.2.map fun x => (x.1, CfM.partOf p st * x.2))).map (·.1)) = _
          rw [CfM.addAll_keys, CfM.map_keys]
          exact eK
    · obtain ⟨W, D, _, _, _, _, _, _, _, _, _, _, rfl, sm, nW, nD, nWD, eW, eD, _⟩ := hP
      refine ⟨.ref W, rfl, _, rfl, by show 2 ≤ sizeLine; decide, fun p hp => ?_⟩
      have e : pins.reverse.take (ts.map V.ref).length = pins.reverse := List.take_of_length_le (by rw [List.length_reverse, List.length_map]; omega)
      refine q _ p W (sm.trans (same_upd hp)) ?_ ?_
      · rw [upd_same]
        show some (HO.tup [V.ref W, V.int ((pins.reverse.take (ts.map V.ref).length).foldl CfM.wstep (CfM.wstart many products number)).2.1]) = _
        rw [e]
        rfl
      · rw [upd_ne (ne_of_none eW hp), eW, e]
        rfl
end
end CfW

namespace CfW
open PySem PySem.Spec PyProof.Rows L2 CfX
abbrev nSettled : List Str := ["rows", "width", "place", "at", "columns", "inverse", "free", "pins", "number", "row", "constant", "coefs", "pin", "products", "whole", "others", "value", "left", "weights", "often", "point", "moves", "column", "more", "a", "b"]
theorem scSettled : FnScope nSettled ["rows", "width"] (defScope sSettled) := ⟨rfl, rfl, rfl, by decide +kernel, rfl, by decide +kernel, by decide +kernel⟩
/-- the scope of the comprehension that the first line stores -/
def firstSc (st : Stmt) : Scope := match (defBody st).getD 0 (.Pass ⟨0, 0, 0, 0⟩) with
  | .Assign _ (.ListComp _ _ sc _) _ => sc
  | _ => defScope st
/-- .. as the comprehensions within it see it -/
def firstScR (st : Stmt) : Scope := relabel (firstSc st) (envOfC "" (defScope st) 0 0 .none)
def rListOf (K : PySem.W.Frag) : List V → Hp → VK → Prop := fun xs H Q => ∃ p ys, xs = [V.ref p] ∧ (SqL K H p ys ∨ SqT K H p ys) ∧ ∀ l, H l = none → Q (.ref l) (upd H l (.lst ys))
def rTupOf (K : PySem.W.Frag) : List V → Hp → VK → Prop := fun xs H Q => ∃ p ys, xs = [V.ref p] ∧ ((SqL K H p ys ∧ ∀ l, H l = none → Q (.ref l) (upd H l (.tup ys))) ∨ (SqT K H p ys ∧ Q (.ref p) H))
def ResAt (H : Hp) (p : Addr) : CfM.Res → Prop
  | .base pt mv rd => BaseAt H p pt mv rd
  | .rest ws d => RestAt H p ws d
theorem ResAt.same {H H' : Hp} {p : Addr} {r : CfM.Res} (s : Same H H') (h : ResAt H p r) : ResAt H' p r := by
  cases r with
  | base pt mv rd => exact BaseAt.same s h
  | rest ws d => exact RestAt.same s h
/-- rows of ints: a list of tuples (u = true) or of lists -/
def RowsAt (u : Bool) (H : Hp) (b : Addr) (R : List (List Int)) : Prop := ∃ ts : List Addr, H b = some (.lst (ts.map V.ref)) ∧ Paired (fun t (v : List Int) => H t = some (if u = true then .tup (v.map V.int) else .lst (v.map V.int))) ts R
theorem RowsAt.same {u : Bool} {H H' : Hp} {p : Addr} {R : List (List Int)} (s : Same H H') (h : RowsAt u H p R) : RowsAt u H' p R := by
  obtain ⟨ts, a, b⟩ := h
  exact ⟨ts, s _ _ a, Paired.mapP b fun _ _ z => s _ _ z⟩
theorem row_seq {K : PySem.W.Frag} {u : Bool} {H : Hp} {t : Addr} {v : List V} (h : H t = some (if u = true then .tup v else .lst v)) : SqB u K H t v := by
  cases u
  · exact .inl (.inl h)
  · exact .inl (.inl h)
theorem refs_of {R : Addr → List Int → Prop} : ∀ (M : List (List Int)) (zs : List V), zs.length = M.length → (∀ (i : Nat) (z : V), zs[i]? = some z → ∃ t, z = .ref t ∧ R t (CfM.row M i)) → ∃ ts : List Addr, zs = ts.map V.ref ∧ Paired R ts M
  | [], zs, hl, _ => by
    have : zs = [] := List.length_eq_zero_iff.mp hl
    subst this
    exact ⟨[], rfl, .nil⟩
  | v :: M, [], hl, _ => by cases hl
  | v :: M, z :: zs, hl, h => by
    obtain ⟨t, rfl, r⟩ := h 0 z rfl
    obtain ⟨ts, rfl, p⟩ := refs_of M zs (by simpa using hl) fun i y e => h (i + 1) y e
    exact ⟨t :: ts, rfl, .cons r p⟩
/-- a new list of new objects, a row in each -/
theorem lc_mat {J : It} {H1 : Hp} {n : Nat} {Item : Nat → V → Hp → Prop} (obj : List Int → HO) (G : GoesBy J H1 n Item) {g : TG} {te : TE} {vs : List Nat} {σ : L2.St} {D : Addr} {Qd : Hp → Prop} (hD : H1 D = none) (hn : n ≤ 1000) (M : List (List Int)) (hM : M.length = n)
    (hs : ∀ i v H3, i < n → Same H1 H3 → Item i v H3 → ∀ post : VK, (∀ t H5, Same H3 H5 → H3 t = none → H5 t = some (obj (CfM.row M i)) → post (.ref t) H5) → g v (wipe σ vs) H3 fun σ2 H4 => wipe σ2 vs = wipe σ vs ∧ te σ2 H4 post)
    (hd : ∀ H2 (ts : List Addr), Same H1 H2 → H2 D = some (.lst (ts.map V.ref)) → Paired (fun t (v : List Int) => H2 t = some (obj v)) ts M → Qd H2) :
    ∃ W : Nat → Nat → Hp → Prop, (∃ m, W 0 m (upd H1 D (.lst []))) ∧ ∀ i m H, W i m H →
      (J.stop i H ∧ Qd H) ∨ (J.go i H ∧ ∃ Nx : Hp → Prop, (∀ H', Nx H' → ∃ m', m' < m ∧ W (i + 1) m' H') ∧ ∀ x H', J.yld i H x H' → g x (wipe σ vs) H' fun σ2 H2 => wipe σ2 vs = wipe σ vs ∧ tYes σ2 H2 fun k H3 =>
        if k = true then te σ2 H3 fun y H4 => ∃ acc, H4 D = some (.lst acc) ∧ acc.length < sizeLine ∧ Nx (upd H4 D (.lst (acc ++ [y]))) else Nx H3) := by
  refine lc_by G hD hn (fun i z H => ∃ t, z = .ref t ∧ t ≠ D ∧ H t = some (obj (CfM.row M i))) (fun i z H H' b h => ?_) (fun i v H3 hi s3 hacc it post hp => ?_) (fun H2 zs s2 eD hl hz => ?_)
  · obtain ⟨t, e, ne, h⟩ := h
    exact ⟨t, e, ne, b _ _ ne h⟩
  · refine hs i v H3 hi s3 it post fun t H5 s5 ht e => hp _ _ s5 ⟨t, rfl, fun z => ?_, e⟩
    obtain ⟨acc, ea⟩ := hacc
    rw [z, ea] at ht
    cases ht
  · obtain ⟨ts, rfl, p⟩ := refs_of (R := fun t v => H2 t = some (obj v)) M zs (by omega) fun i z e => by
      obtain ⟨t, e1, _, e2⟩ := hz i z e
      exact ⟨t, e1, e2⟩
    exact hd H2 ts s2 eD p
theorem PinsAt.but {b c : Addr} {H H' : Hp} {xb xc : List V} {pl : Addr} {pins : List CfM.Pin} (s : But2 b c H H') (eb : H b = some (.lst xb)) (ec : H c = some (.lst xc)) (nb : pl ≠ b) (nc : pl ≠ c) (h : PinsAt H pl pins) : PinsAt H' pl pins := by
  obtain ⟨ts, e, p⟩ := h
  refine ⟨ts, s _ _ nb nc e, Paired.mapP p fun t q z => ?_⟩
  obtain ⟨o, e1, e2⟩ := z
  exact ⟨o, s _ _ (ne_of e1 eb (by intro z; cases z)) (ne_of e1 ec (by intro z; cases z)) e1, s _ _ (ne_of e2 eb (by intro z; cases z)) (ne_of e2 ec (by intro z; cases z)) e2⟩
theorem none_of {H H' : Hp} (s : Same H H') {a : Addr} (h : H' a = none) : H a = none := by
  cases e : H a with
  | none => rfl
  | some o => rw [s _ _ e] at h; cases h
theorem same_but2 {H H1 H2 : Hp} {b c : Addr} (s : Same H H1) (hb : H b = none) (hc : H c = none) (t : But2 b c H1 H2) : Same H H2 := fun a o e => t a o (ne_of_none e hb) (ne_of_none e hc) (s _ _ e)
/-! one turn of settled, by cases -/
section
variable {many kk : Nat} {c : Int} {cs : List Int} {st : CfM.SS}
theorem step_none (h : (CfM.turnM st cs).2.2 = none) (h0 : CfM.leftOf c (CfM.prods (CfM.turnM st cs).1 cs st.pins) st.pins = 0) : CfM.stepS many kk (c :: cs) st = .inl ⟨(CfM.turnM st cs).1, (CfM.turnM st cs).2.1, st.free, st.pins⟩ := by
  unfold CfM.stepS
  dsimp only [List.tail_cons]
  rw [h]
  exact if_pos h0
theorem step_noneR (h : (CfM.turnM st cs).2.2 = none) (h0 : CfM.leftOf c (CfM.prods (CfM.turnM st cs).1 cs st.pins) st.pins ≠ 0) : CfM.stepS many kk (c :: cs) st = .inr (.rest (CfM.restM (CfM.weighedM many st.pins (CfM.prods (CfM.turnM st cs).1 cs st.pins) kk).1 (CfM.absI ((CfM.weighedM many st.pins (CfM.prods (CfM.turnM st cs).1 cs st.pins) kk).2.1 * CfM.leftOf c (CfM.prods (CfM.turnM st cs).1 cs st.pins) st.pins) + 1)).1
    (CfM.restM (CfM.weighedM many st.pins (CfM.prods (CfM.turnM st cs).1 cs st.pins) kk).1 (CfM.absI ((CfM.weighedM many st.pins (CfM.prods (CfM.turnM st cs).1 cs st.pins) kk).2.1 * CfM.leftOf c (CfM.prods (CfM.turnM st cs).1 cs st.pins) st.pins) + 1)).2) := by
  unfold CfM.stepS
  dsimp only [List.tail_cons]
  rw [h]
  exact if_neg h0
theorem step_some {a : Nat} (h : (CfM.turnM st cs).2.2 = some a) (h0 : (CfM.leftOf c (CfM.prods (CfM.turnM st cs).1 cs st.pins) st.pins).fmod (CfM.dot cs (CfM.row (CfM.turnM st cs).1 a)) = 0) : CfM.stepS many kk (c :: cs) st =
    .inl ⟨(CfM.turnM st cs).1, (CfM.turnM st cs).2.1, st.free.erase a, st.pins ++ [CfM.pinOf a kk (CfM.dot cs (CfM.row (CfM.turnM st cs).1 a)) (CfM.prods (CfM.turnM st cs).1 cs st.pins) (CfM.leftOf c (CfM.prods (CfM.turnM st cs).1 cs st.pins) st.pins)]⟩ := by
  unfold CfM.stepS
  dsimp only [List.tail_cons]
  rw [h]
  exact if_pos h0
theorem step_someR {a : Nat} (h : (CfM.turnM st cs).2.2 = some a) (h0 : (CfM.leftOf c (CfM.prods (CfM.turnM st cs).1 cs st.pins) st.pins).fmod (CfM.dot cs (CfM.row (CfM.turnM st cs).1 a)) ≠ 0) : CfM.stepS many kk (c :: cs) st =
    .inr (.rest (CfM.restM (CfM.weighedM many st.pins (CfM.prods (CfM.turnM st cs).1 cs st.pins) kk).1 ((CfM.weighedM many st.pins (CfM.prods (CfM.turnM st cs).1 cs st.pins) kk).2.1 * CfM.absI (CfM.dot cs (CfM.row (CfM.turnM st cs).1 a)))).1
      (CfM.restM (CfM.weighedM many st.pins (CfM.prods (CfM.turnM st cs).1 cs st.pins) kk).1 ((CfM.weighedM many st.pins (CfM.prods (CfM.turnM st cs).1 cs st.pins) kk).2.1 * CfM.absI (CfM.dot cs (CfM.row (CfM.turnM st cs).1 a)))).2) := by
  unfold CfM.stepS
  dsimp only [List.tail_cons]
  rw [h]
  exact if_neg h0
end
theorem others_len {A : Nat → List Int} {cols : List (List Int)} {pins : List CfM.Pin} (h : CfM.PinsOk A cols pins) : ∀ p ∈ pins, p.others.length ≤ pins.length := by
  induction h with
  | nil => intro p hp; cases hp
  | @snoc pins h p hw h0 ho hl hp ha ih =>
    intro y hy
    rw [List.length_append, List.length_singleton]
    rcases List.mem_append.mp hy with z | z
    · have := ih y z; omega
    · rw [List.mem_singleton.mp z, ho, List.length_map]; omega
theorem big_ok : CfM.LW + CfM.XB CfM.LW 8 + 200 ≤ 67000000 := by decide +kernel
theorem big_ok2 : CfM.XB CfM.LW 8 + (CfM.vv 8 + CfM.mm 8 + 91) + 2 ≤ 134217728 := by decide +kernel
theorem big_ok3 : CfM.XB CfM.LW 8 + CfM.LW + 2 ≤ 134217728 := by decide +kernel
theorem wipe_off {i : Nat} {x : Option V} (σ : L2.St) : ∀ (vs : List Nat), i ∉ vs → wipe (σ.set i x) vs = (wipe σ vs).set i x
  | [], _ => rfl
  | v :: vs, h => by
    have h1 : i ≠ v := fun e => h (by rw [e]; exact List.mem_cons_self)
    have h2 : i ∉ vs := fun e => h (List.mem_cons_of_mem _ e)
    show (wipe (σ.set i x) vs).set v none = ((wipe σ vs).set v none).set i x
    rw [wipe_off σ vs h2, List.set_comm _ _ h1]
theorem wipe_in {i : Nat} {x : Option V} (σ : L2.St) : ∀ (vs : List Nat), i ∈ vs → wipe (σ.set i x) vs = wipe σ vs
  | v :: vs, h => by
    show (wipe (σ.set i x) vs).set v none = (wipe σ vs).set v none
    by_cases h2 : i ∈ vs
    · rw [wipe_in σ vs h2]
    · rcases List.mem_cons.mp h with e | e
      · subst e
        rw [wipe_off σ vs h2, List.set_set]
      · exact absurd e h2
theorem wipe_two (σ : L2.St) : ∀ (vs us : List Nat), (∀ i ∈ us, i ∈ vs) → wipe (wipe σ us) vs = wipe σ vs
  | vs, [], _ => rfl
  | vs, u :: us, h => by
    show wipe ((wipe σ us).set u none) vs = wipe σ vs
    rw [wipe_in _ vs (h u List.mem_cons_self), wipe_two σ vs us fun i hi => h i (List.mem_cons_of_mem _ hi)]
theorem wipe5 {σ : L2.St} {vs : List Nat} {i j k l m : Nat} {a b c d e : Option V} (hi : i ∈ vs) (hj : j ∈ vs) (hk : k ∈ vs) (hl : l ∈ vs) (hm : m ∈ vs) : wipe ((((((wipe σ vs).set i a).set j b).set k c).set l d).set m e) vs = wipe σ vs := by
  rw [wipe_in _ vs hm, wipe_in _ vs hl, wipe_in _ vs hk, wipe_in _ vs hj, wipe_in _ vs hi, wipe_two σ vs vs fun _ h => h]
theorem nats_ints (l : List Nat) : natsV l = (l.map fun (x : Nat) => (x : Int)).map V.int := by
  unfold natsV
  rw [List.map_map]
  rfl
theorem nats_drop {a : Nat} : ∀ {l : List Nat}, a ∈ l → ∃ j : Nat, (l.map fun (x : Nat) => (x : Int))[j]? = some (a : Int) ∧ (∀ m : Nat, m < j → (l.map fun (x : Nat) => (x : Int))[m]? ≠ some (a : Int)) ∧ ((l.map fun (x : Nat) => (x : Int)).eraseIdx j).map V.int = natsV (l.erase a)
  | x :: l, h => by
    by_cases e : x = a
    · subst e
      refine ⟨0, rfl, fun m hm => absurd hm (Nat.not_lt_zero m), ?_⟩
      rw [List.erase_cons_head, nats_ints]
      rfl
    · have h2 : a ∈ l := by
        rcases List.mem_cons.mp h with z | z
        · exact absurd z.symm e
        · exact z
      obtain ⟨j, e1, e2, e3⟩ := nats_drop h2
      refine ⟨j + 1, e1, fun m hm => ?_, ?_⟩
      · cases m with
        | zero =>
          intro z
          have z2 : (x : Int) = (a : Int) := Option.some.inj z
          exact e (by omega)
        | succ m => exact e2 m (by omega)
      · rw [List.erase_cons_tail (by simpa using e)]
        show V.int (x : Int) :: ((l.map fun (x : Nat) => (x : Int)).eraseIdx j).map V.int = natsV (x :: l.erase a)
        rw [e3]
        rfl
theorem paired_mem {R : Addr → List Int → Prop} {ts : List Addr} {M : List (List Int)} (p : Paired R ts M) {t : Addr} (h : t ∈ ts) : ∃ v, R t v := by
  obtain ⟨i, hi, e⟩ := List.mem_iff_getElem.mp h
  obtain ⟨v, _, r⟩ := paired_get p (show ts[i]? = some t by rw [List.getElem?_eq_getElem hi, e])
  exact ⟨v, r⟩
theorem paired_snoc {α β : Type} {R : α → β → Prop} {l : List α} {m : List β} {a : α} {b : β} (p : Paired R l m) (h : R a b) : Paired R (l ++ [a]) (m ++ [b]) := by
  induction p with
  | nil => exact .cons h .nil
  | cons x _ ih => exact .cons x ih
theorem mat_move {H H' : Hp} {ts : List Addr} {M : List (List Int)} (p : Paired (fun t (v : List Int) => H t = some (.lst (v.map V.int))) ts M) (h : ∀ t (v : List Int), t ∈ ts → H t = some (.lst (v.map V.int)) → H' t = some (.lst (v.map V.int))) : Paired (fun t (v : List Int) => H' t = some (.lst (v.map V.int))) ts M := by
  induction p with
  | nil => exact .nil
  | cons a r ih => exact .cons (h _ _ List.mem_cons_self a) (ih fun t v ht e => h t v (List.mem_cons_of_mem _ ht) e)
def spSettled : Sp := fun vs H Q _ => ∃ (ra : Addr) (u : Bool) (R : List (List Int)) (wd : Nat), vs = [.ref ra, .int (wd : Int)] ∧ RowsAt u H ra R ∧ wd ≤ 8 ∧ R.length ≤ 1000 ∧ CfM.Rows wd R ∧ (∀ r ∈ R, CfM.RowB r) ∧
  ∀ H' p, Same H H' → ResAt H' p (CfM.settledM R wd) → Q (.ref p) H'
section
variable {P : Program} {w : World} {K : PySem.W.Frag} {mg : Str → Option Value} {base : Heap}
theorem ok_settled {f fP fT fW fB : Addr} {fd fdP fdT fdW fdB : FuncData} {k : Nat} (F : Fun K "settled" "settled" sSettled f fd) (hk : 40 ≤ k) (sb : base.NoSeer) (tr : P.given.tree = none)
    (FP : FnOk P w K mg base CX0 k fP fdP ["one", "other"] (spDot K)) (kP : PySem.W.keepIn K (.ref fP) = true) (bP : Binds K fdP ["one", "other"] []) (gP : mg "product" = some (.ref fP))
    (FT : FnOk P w K mg base CX0 k fT fdT ["columns", "inverse", "free", "coefs"] spTurned) (kT : PySem.W.keepIn K (.ref fT) = true) (bT : Binds K fdT ["columns", "inverse", "free", "coefs"] []) (gT : mg "turned" = some (.ref fT))
    (FW : FnOk P w K mg base CX0 k fW fdW ["many", "pins", "products", "number"] spWeighed) (kW : PySem.W.keepIn K (.ref fW) = true) (bW : Binds K fdW ["many", "pins", "products", "number"] []) (gW : mg "weighed" = some (.ref fW))
    (FB : FnOk P w K mg base CX0 k fB fdB ["weights", "d"] (spRestBy K)) (kB : PySem.W.keepIn K (.ref fB) = true) (bB : Binds K fdB ["weights", "d"] []) (gB : mg "rest_by" = some (.ref fB))
    (mi : mg "int" = none) (mr : mg "range" = none) (ml : mg "list" = none) (me : mg "enumerate" = none) (ms : mg "sum" = none) (mn : mg "len" = none) (ma : mg "abs" = none) (mz : mg "zip" = none) (mt : mg "tuple" = none) : FnOk P w K mg base CX0 (k + 1) f fd ["rows", "width"] spSettled := by
  refine F.ok scSettled (fun vs H Q E h => ?_) (fun cdv A outer s H vs Q E hr h => ?_)
  · obtain ⟨_, _, _, _, rfl, _⟩ := h
    rfl
  · obtain ⟨ra, u, R, wd, rfl, hRA, h8, hRl, hR, hRB, q⟩ := h
    have hpy := room100 hr hk
    have hu := hu_of hr
    refine ⟨_, pss_cons (ps_set (i := 4) scSettled.nd rfl (.inr rfl) (pe_lc (own := [("place", 2)]) (g := gName 2) (tt := tYes) rfl scSettled.nd (pi_range1 (by rfl) mr (pa_cons (pv 1) pa_nil)) (blkOk_by (N := nSettled) (sc := defScope sSettled) (by decide +kernel))
        (fun _ _ _ _ _ => pg_name (i := 2) scSettled.nd rfl (Or.inr rfl)) (fun _ _ _ _ _ => pts_nil)
        (fun _ _ _ _ _ => pe_lc (own := [("at", 3)]) (g := gName 3) (tt := tYes) rfl scSettled.nd (pi_range1 (by rfl) mr (pa_cons (pv 1) pa_nil)) (blkOk_by (N := nSettled) (sc := firstScR sSettled) (by decide +kernel))
          (fun _ _ _ _ _ => pg_name (i := 3) scSettled.nd rfl (Or.inl rfl)) (fun _ _ _ _ _ => pts_nil)
          (fun _ _ _ _ _ => pe_callTy (T := "int") call_int1 (by rfl) mi (by decide +kernel) (pa_cons (pe_cmp (pc_eqI (pv 3) (pv 2))) pa_nil)))))
      (pss_cons (ps_set (i := 5) scSettled.nd rfl (.inr rfl) (pe_lc (own := [("column", 22)]) (g := gName 22) (tt := tYes) rfl scSettled.nd (pi_list (pv 4)) (blkOk_by (N := nSettled) (sc := defScope sSettled) (by decide +kernel))
        (fun _ _ _ _ _ => pg_name (i := 22) scSettled.nd rfl (Or.inl rfl)) (fun _ _ _ _ _ => pts_nil)
        (fun _ _ _ _ _ => pe_callTy (T := "list") (r := rListOf K) call_list_of (by rfl) ml (by decide +kernel) (pa_cons (pv 22) pa_nil))))
      (pss_cons (ps_set (i := 6) scSettled.nd rfl (.inl rfl) (pe_listRg rfl (by rfl) ml (prg_1 (by rfl) mr (pv 1))))
      (pss_cons (ps_set (i := 7) scSettled.nd rfl (.inl rfl) (pe_lst pa_nil))
      (pss_cons (ps_for PassesOwn.never rfl (pi_enumB (by rfl) me (pa_cons (pv 0) pa_nil)) (pg_tup rfl (pgs_cons (pg_name (i := 8) scSettled.nd rfl (Or.inl rfl)) (pgs_cons (pg_name (i := 9) scSettled.nd rfl (Or.inl rfl)) pgs_nil)))
          (pss_cons (ps_asg (pv 9) (pg_star rfl (pgs_cons (pg_name (i := 10) scSettled.nd rfl (Or.inl rfl)) (pgs_cons (pg_name (i := 11) scSettled.nd rfl (Or.inr rfl)) pgs_nil))))
          (pss_cons (ps_set (i := 3) scSettled.nd rfl (.inl rfl) (pe_call FT hr (by rfl) gT kT bT .nil pass0 (pa_cons (pv 4) (pa_cons (pv 5) (pa_cons (pv 6) (pa_cons (pv 11) pa_nil))))))
          (pss_cons (ps_set (i := 13) scSettled.nd rfl (.inr rfl) (pe_dc (own := [("pin", 12), ("more", 23)]) (g := gStar K (gCons (gName 12) (gCons (gName 23) gNil))) (tt := tYes) rfl scSettled.nd (pi_list (pv 7)) (blkOk_by (N := nSettled) (sc := defScope sSettled) (by decide +kernel))
              (fun _ _ _ _ _ => pg_star rfl (pgs_cons (pg_name (i := 12) scSettled.nd rfl (Or.inl rfl)) (pgs_cons (pg_name (i := 23) scSettled.nd rfl (Or.inl rfl)) pgs_nil))) (fun _ _ _ _ _ => pts_nil)
              (fun _ _ _ _ _ => pv 12)
              (fun _ _ _ _ _ => pe_call FP hr (by rfl) gP kP bP .nil pass0 (pa_cons (pv 11) (pa_cons (pe_ix (r := rIxL K) ix_list (pv 4) (pv 12) (fun _ _ => rfl)) pa_nil)))))
          (pss_cons (ps_set (i := 17) scSettled.nd rfl (.inl rfl) (pe_op op_add (pv 10) (pe_callB (cr_sum rfl) (by rfl) ms (by decide +kernel) (pa_cons
              (pe_lc (own := [("pin", 12), ("place", 2), ("whole", 14), ("others", 15), ("value", 16)]) (g := gTup K 5 (gCons (gName 12) (gCons (gName 2) (gCons (gName 14) (gCons (gName 15) (gCons (gName 16) gNil)))))) (tt := tYes) rfl scSettled.nd (pi_list (pv 7)) (blkOk_by (N := nSettled) (sc := defScope sSettled) (by decide +kernel))
                (fun _ _ _ _ _ => pg_tup rfl (pgs_cons (pg_name (i := 12) scSettled.nd rfl (Or.inl rfl)) (pgs_cons (pg_name (i := 2) scSettled.nd rfl (Or.inl rfl)) (pgs_cons (pg_name (i := 14) scSettled.nd rfl (Or.inl rfl)) (pgs_cons (pg_name (i := 15) scSettled.nd rfl (Or.inl rfl)) (pgs_cons (pg_name (i := 16) scSettled.nd rfl (Or.inl rfl)) pgs_nil)))))) (fun _ _ _ _ _ => pts_nil)
                (fun _ _ _ _ _ => pe_op op_mulX (pe_dget hu (pv 13) (pv 12) (fun _ _ => rfl)) (pv 16))) pa_nil))))
          (pss_cons (ps_if (PW.pt (pw_and (pt_cmp (pc_isN (pv 3))) (pw_and1 (pt_cmpR op_ne (pv 17) pe_int (nomark _)))))
              (pss_cons (ps_asg (pe_call FW hr (by rfl) gW kW bW .nil pass0 (pa_cons (pe_callB call_len_seq (by rfl) mn PySem.boot_len (pa_cons (pv 0) pa_nil)) (pa_cons (pv 7) (pa_cons (pv 13) (pa_cons (pv 8) pa_nil)))))
                  (pg_tup rfl (pgs_cons (pg_name (i := 18) scSettled.nd rfl (Or.inl rfl)) (pgs_cons (pg_name (i := 19) scSettled.nd rfl (Or.inl rfl)) pgs_nil))))
              (pss_one (ps_ret (pe_call FB hr (by rfl) gB kB bB .nil pass0 (pa_cons (pv 18) (pa_cons (pe_op op_add (pe_callB call_abs (by rfl) ma (by decide +kernel) (pa_cons (pe_op op_mulX (pv 19) (pv 17)) pa_nil)) pe_int) pa_nil))))))
              pss_nil)
          (pss_one (ps_if (pt_cmp (pc_notN (pv 3)))
              (pss_cons (ps_set (i := 14) scSettled.nd rfl (.inl rfl) (pe_call FP hr (by rfl) gP kP bP .nil pass0 (pa_cons (pv 11) (pa_cons (pe_ix ix_list (pv 4) (pv 3) (fun _ _ => rfl)) pa_nil))))
              (pss_cons (ps_if (pt_cmpR op_ne (pe_op op_modN (pv 17) (pv 14)) pe_int (nomark _))
                  (pss_cons (ps_asg (pe_call FW hr (by rfl) gW kW bW .nil pass0 (pa_cons (pe_callB call_len_seq (by rfl) mn PySem.boot_len (pa_cons (pv 0) pa_nil)) (pa_cons (pv 7) (pa_cons (pv 13) (pa_cons (pv 8) pa_nil)))))
                      (pg_tup rfl (pgs_cons (pg_name (i := 18) scSettled.nd rfl (Or.inl rfl)) (pgs_cons (pg_name (i := 19) scSettled.nd rfl (Or.inl rfl)) pgs_nil))))
                  (pss_one (ps_ret (pe_call FB hr (by rfl) gB kB bB .nil pass0 (pa_cons (pv 18) (pa_cons (pe_op op_mulX (pv 19) (pe_callB call_abs (by rfl) ma (by decide +kernel) (pa_cons (pv 14) pa_nil))) pa_nil))))))
                  pss_nil)
              (pss_cons (ps_expr (pe_bm PySem.F.plainAttrs_list PySem.F.slot_list_remove PySem.F.type_list_remove mt_remove (pv 6) (pa_cons (pv 3) pa_nil)))
              (pss_one (ps_expr (pe_bm PySem.F.plainAttrs_list PySem.F.slot_list_append PySem.F.type_list_append mt_append (pv 7) (pa_cons
                  (pe_tup (pa_cons (pv 3) (pa_cons (pv 8) (pa_cons (pv 14) (pa_cons (pv 13) (pa_cons (pe_op (op_fdivP ⟨sb, tr, hpy, ⟨_, _, rfl, rfl, rfl, rfl, rfl⟩⟩) (pe_un un_neg (pv 17)) (pv 14)) pa_nil)))))) pa_nil)))))))
              pss_nil))))))))
      (pss_cons (ps_setLc (i := 20) (own := [("at", 3)]) (g := gName 3) (tt := tYes) rfl scSettled.nd rfl rfl (sw_true rfl rfl rfl (by decide +kernel)) (pi_range1 (by rfl) mr (pa_cons (pv 1) pa_nil)) (blkOk_by (N := nSettled) (sc := defScope sSettled) (by decide +kernel))
          (fun _ _ _ _ _ => pg_name (i := 3) scSettled.nd rfl (Or.inl rfl)) (fun _ _ _ _ _ => pts_nil) (fun _ _ _ _ _ => pe_int))
      (pss_cons (ps_for PassesOwn.never rfl (pi_list (pv 7)) (pg_tup rfl (pgs_cons (pg_name (i := 12) scSettled.nd rfl (Or.inl rfl)) (pgs_cons (pg_name (i := 2) scSettled.nd rfl (Or.inl rfl)) (pgs_cons (pg_name (i := 14) scSettled.nd rfl (Or.inl rfl)) (pgs_cons (pg_name (i := 15) scSettled.nd rfl (Or.inl rfl)) (pgs_cons (pg_name (i := 16) scSettled.nd rfl (Or.inr rfl)) pgs_nil))))))
          (pss_one (ps_setLc (i := 20) (own := [("a", 24), ("b", 25)]) (g := gTup K 2 (gCons (gName 24) (gCons (gName 25) gNil))) (tt := tYes) rfl scSettled.nd rfl rfl (sw_true rfl rfl rfl (by decide +kernel)) (pi_zipB (by rfl) mz (pa_cons (pv 20) (pa_cons (pe_ix (r := rIxL K) ix_list (pv 4) (pv 12) (fun _ _ => rfl)) pa_nil)))
              (blkOk_by (N := nSettled) (sc := defScope sSettled) (by decide +kernel))
              (fun _ _ _ _ _ => pg_tup rfl (pgs_cons (pg_name (i := 24) scSettled.nd rfl (Or.inl rfl)) (pgs_cons (pg_name (i := 25) scSettled.nd rfl (Or.inl rfl)) pgs_nil))) (fun _ _ _ _ _ => pts_nil)
              (fun _ _ _ _ _ => pe_op op_add (pv 24) (pe_op op_mulX (pv 16) (pv 25))))))
      (pss_cons (ps_set (i := 21) scSettled.nd rfl (.inl rfl) (pe_callTy call_tuple_of (by rfl) mt (by decide +kernel) (pa_cons
          (pe_lc (own := [("at", 3)]) (g := gName 3) (tt := tYes) rfl scSettled.nd (pi_list (pv 6)) (blkOk_by (N := nSettled) (sc := defScope sSettled) (by decide +kernel))
            (fun _ _ _ _ _ => pg_name (i := 3) scSettled.nd rfl (Or.inl rfl)) (fun _ _ _ _ _ => pts_nil)
            (fun _ _ _ _ _ => pe_callTy (T := "tuple") (r := rTupOf K) call_tuple_of (by rfl) mt (by decide +kernel) (pa_cons (pe_ix (r := rIxL K) ix_list (pv 4) (pv 3) (fun _ _ => rfl)) pa_nil))) pa_nil)))
      (pss_one (ps_ret (pe_tup (pa_cons pe_str (pa_cons (pe_callTy call_tuple_of (by rfl) mt (by decide +kernel) (pa_cons (pv 20) pa_nil)) (pa_cons (pv 21) (pa_cons (pe_callTy call_tuple_of (by rfl) mt (by decide +kernel) (pa_cons
          (pe_lc (own := [("at", 3)]) (g := gName 3) (tt := tYes) rfl scSettled.nd (pi_list (pv 6)) (blkOk_by (N := nSettled) (sc := defScope sSettled) (by decide +kernel))
            (fun _ _ _ _ _ => pg_name (i := 3) scSettled.nd rfl (Or.inl rfl)) (fun _ _ _ _ _ => pts_nil)
            (fun _ _ _ _ _ => pe_callTy (T := "tuple") (r := rTupOf K) call_tuple_of (by rfl) mt (by decide +kernel) (pa_cons (pe_ix (r := rIxL K) ix_list (pv 5) (pv 3) (fun _ _ => rfl)) pa_nil))) pa_nil)) pa_nil)))))))))))))), ?_⟩
    obtain ⟨tsR, eR, pR⟩ := hRA
    have lR := Paired.length pR
    have lu : (CfM.unit wd).length = wd := (CfM.unit_wf wd).len
    -- columns
    refine ⟨.int (wd : Int), rfl, (wd : Int), rfl, by omega, by omega, fun cA hcA => ?_⟩
    rw [Int.toNat_natCast]
    refine lc_mat (fun v => .lst (v.map V.int)) (goes_range H 0 wd) hcA (by omega) (CfM.unit wd) lu (fun i v H3 hi s3 it post hp => ?_) (fun H2 tc s2 eC pC => ?_)
    · subst it
      refine ⟨rfl, .int (wd : Int), rfl, (wd : Int), rfl, by omega, by omega, fun D2 hD2 => ?_⟩
      rw [Int.toNat_natCast]
      refine lc_rangeI (fun a => if a = i then 1 else 0) (by omega) hD2 (fun _ => rfl) (fun a H5 post2 ha s5 hp2 => ?_) (fun H5 s5 e5 => ?_)
      · refine ⟨_, rfl, _, rfl, (0 + (a : Int)), (0 + (i : Int)), rfl, rfl, .inr ⟨_, rfl, ?_⟩⟩
        have e : (if decide ((0 : Int) + (a : Int) = 0 + (i : Int)) = true then (1 : Int) else 0) = if a = i then 1 else 0 := by
          by_cases z : a = i
          · rw [if_pos z, if_pos (by rw [z]; simp)]
          · rw [if_neg z, if_neg (by simp; omega)]
        rw [← e] at hp2
        exact hp2
      · refine hp D2 H5 s5 hD2 ?_
        rw [CfM.unit_row hi]
        exact e5
    have lc := Paired.length pC
    -- inverse
    refine ⟨.ref cA, rfl, cA, rfl, ⟨_, .inl (.inl eC)⟩, fun iA hiA => ?_⟩
    refine lc_mat (fun v => .lst (v.map V.int)) (goes_list (K := K) (.inl (.inl eC))) hiA (by rw [List.length_map]; omega) (CfM.unit wd) (by rw [List.length_map]; omega) (fun i v H3 hi s3 it post hp => ?_) (fun H3 ti s3 eI pI => ?_)
    · rw [List.length_map] at hi
      obtain ⟨t, et, e⟩ := mat_row pC (i := i) (by omega)
      rw [List.getElem?_map, et] at it
      have it := (Option.some.inj it).symm
      subst it
      exact ⟨rfl, .ref t, rfl, t, _, rfl, .inl (.inl (.inl (s3 _ _ e))), fun l hl => hp l _ (same_upd hl) hl upd_same⟩
    -- free
    refine ⟨.int (wd : Int), rfl, (wd : Int), rfl, RgOk.of_le (by omega) (by omega) (by omega) (by omega), fun fA hfA => ?_⟩
    have efr : rgV 0 (wd : Int) = natsV (List.range wd) := by
      unfold rgV natsV
      rw [show ((wd : Int) - 0).toNat = wd by omega]
      exact List.map_congr_left fun i _ => by rw [Int.zero_add]
    rw [efr]
    -- pins
    refine ⟨Nat.zero_le _, fun pA hpA => ?_⟩
    have nfc : fA ≠ cA := (ne_of_none (s3 _ _ eC) hfA).symm
    have nfi : fA ≠ iA := (ne_of_none eI hfA).symm
    have nci : cA ≠ iA := ne_of_none eC hiA
    have eC4 : (upd H3 fA (.lst (natsV (List.range wd)))) cA = some (.lst (tc.map V.ref)) := by rw [upd_ne (Ne.symm nfc)]; exact s3 _ _ eC
    have eI4 : (upd H3 fA (.lst (natsV (List.range wd)))) iA = some (.lst (ti.map V.ref)) := by rw [upd_ne (Ne.symm nfi)]; exact eI
    have eF4 : (upd H3 fA (.lst (natsV (List.range wd)))) fA = some (.lst (natsV (List.range wd))) := upd_same
    have s34 : Same H3 (upd H3 fA (.lst (natsV (List.range wd)))) := same_upd hfA
    generalize upd H3 fA (.lst (natsV (List.range wd))) = H4 at *
    have npc : pA ≠ cA := (ne_of_none eC4 hpA).symm
    have npi : pA ≠ iA := (ne_of_none eI4 hpA).symm
    have npf : pA ≠ fA := (ne_of_none eF4 hpA).symm
    have s24 : Same H2 H4 := s3.trans s34
    have s04 : Same H H4 := s2.trans s24
    have offC : ∀ t ∈ tc, t ≠ fA ∧ t ≠ pA := fun t ht => by
      obtain ⟨v, e⟩ := paired_mem pC ht
      exact ⟨ne_of_none (s3 _ _ e) hfA, ne_of_none (s24 _ _ e) hpA⟩
    have offI : ∀ t ∈ ti, t ≠ fA ∧ t ≠ pA := fun t ht => by
      obtain ⟨v, e⟩ := paired_mem pI ht
      exact ⟨ne_of_none e hfA, ne_of_none (s34 _ _ e) hpA⟩
    have nC : H cA = none := hcA
    have nI : H iA = none := none_of s2 hiA
    have nF : H fA = none := none_of (s2.trans s3) hfA
    have nP : H pA = none := none_of s04 hpA
    have s45 : Same H4 (upd H4 pA (.lst [])) := same_upd hpA
    have eP5 : (upd H4 pA (.lst [])) pA = some (.lst []) := upd_same
    generalize upd H4 pA (.lst []) = H5 at *
    -- for number, row in enumerate(rows)
    have hsR : ∀ {H' : Hp}, Same H H' → SqB false K H' ra (tsR.map V.ref) := fun s' => .inl (.inl (s' _ _ eR))
    refine ⟨.ref ra, rfl, false, ra, _, rfl, hsR (s04.trans s45), ?_⟩
    refine for_enumB (fun kk σ H' => ∃ (st : CfM.SS) (z2 z3 z8 z9 z10 z11 z12 z13 z14 z15 z16 z17 z18 z19 z20 z21 z22 z23 z24 z25 : Option V), CfM.Good wd R kk st ∧ CfM.SB st ∧ CfM.settledM R wd = (match CfM.runS R.length kk (R.drop kk) st with | .inl s => CfM.endS wd s | .inr z => z) ∧
        σ = [some (.ref ra), some (.int (wd : Int)), z2, z3, some (.ref cA), some (.ref iA), some (.ref fA), some (.ref pA), z8, z9, z10, z11, z12, z13, z14, z15, z16, z17, z18, z19, z20, z21, z22, z23, z24, z25] ∧ Same H H' ∧ LstMat (fun t => t ≠ fA ∧ t ≠ pA) H' cA st.cols ∧ LstMat (fun t => t ≠ fA ∧ t ≠ pA) H' iA st.inv ∧ H' fA = some (.lst (natsV st.free)) ∧ PinsAt H' pA st.pins)
      ⟨CfM.startS wd, _, _, _, _, _, _, _, _, _, _, _, _, _, _, _, _, _, _, _, _, CfM.start_good wd R, CfM.start_sb wd, rfl, rfl, s04.trans s45, ⟨tc, s45 _ _ eC4, mat_same (s24.trans s45) pC, offC⟩, ⟨ti, s45 _ _ eI4, mat_same (s34.trans s45) pI, offI⟩, s45 _ _ eF4, ⟨[], eP5, .nil⟩⟩
      (fun kk σ H' hP => ?_) (fun kk x T σ H' hx hP hT => ?_) (fun σ H' hP => ?_)
    · obtain ⟨_, _, _, _, _, _, _, _, _, _, _, _, _, _, _, _, _, _, _, _, _, _, _, _, _, sm, _⟩ := hP
      exact hsR sm
    · obtain ⟨st, z2, z3, z8, z9, z10, z11, z12, z13, z14, z15, z16, z17, z18, z19, z20, z21, z22, z23, z24, z25, G, B, hrun, rfl, sm, ⟨uc, eC, pC, nuc⟩, ⟨ui, eI, pI, nui⟩, eF, hPn⟩ := hP
      have hkx : kk < (tsR.map V.ref).length := (List.getElem?_eq_some_iff.mp hx).1
      rw [List.length_map] at hkx
      have hk : kk < R.length := by omega
      have RB := hRB _ (CfM.row_mem hk)
      have hr := hR.each _ (CfM.row_mem hk)
      have etr : tsR[kk]? = some tsR[kk] := List.getElem?_eq_getElem hkx
      obtain ⟨vr, evr, hvr⟩ := paired_get pR etr
      have evr2 : vr = CfM.row R kk := Option.some.inj (evr.symm.trans (CfM.row_in hk))
      subst evr2
      rw [List.getElem?_map, etr] at hx
      have hx := (Option.some.inj hx).symm
      subst hx
      generalize tsR[kk] = tr at *
      have sT : Same H' (upd H' T (.tup [.int (kk : Nat), .ref tr])) := same_upd hT
      have eT : (upd H' T (.tup [.int (kk : Nat), .ref tr])) T = some (.tup [.int (kk : Nat), .ref tr]) := upd_same
      have smT := sm.trans sT
      generalize upd H' T (.tup [.int (kk : Nat), .ref tr]) = H6 at *
      obtain ⟨c, cs, er⟩ : ∃ c cs, CfM.row R kk = c :: cs := by
        cases e : CfM.row R kk with
        | nil => rw [e] at hr; simp at hr
        | cons c cs => exact ⟨c, cs, rfl⟩
      have ecf : CfM.cf R kk = cs := by show (CfM.row R kk).tail = cs; rw [er]; rfl
      have hcs : cs.length = wd := by rw [er] at hr; simpa using hr
      -- number, row; constant, *coefs = row
      refine ⟨T, _, rfl, .inl (.inl eT), rfl, _, _, rfl, _, _, rfl, rfl, ?_⟩
      have hrow : SqB u K H6 tr ((CfM.row R kk).map V.int) := row_seq (smT _ _ hvr)
      rw [er, List.map_cons] at hrow
      refine ⟨_, rfl, u, tr, .int c, cs.map V.int, rfl, hrow, by rw [List.length_map]; omega, fun co hco => ⟨_, _, rfl, _, _, rfl, rfl, ?_⟩⟩
      have eCo : (upd H6 co (.lst (cs.map V.int))) co = some (.lst (cs.map V.int)) := upd_same
      have sCo : Same H6 (upd H6 co (.lst (cs.map V.int))) := same_upd hco
      have nco : ∀ {a : Addr} {x : HO}, H' a = some x → co ≠ a := fun e => (ne_of_none (sT _ _ e) hco).symm
      have s67 := sT.trans sCo
      generalize upd H6 co (.lst (cs.map V.int)) = H7 at *
      have s7 : Same H H7 := sm.trans s67
      have ncc := nco eC
      have nci2 := nco eI
      have hPn7 := hPn.same s67
      have TB := fun n => CfM.turn_bd h8 G B hr RB n
      have TA := CfM.turn_all h8 G B hr RB
      have G1 := G.turn (CfM.cf R kk)
      have LB := CfM.left_bd h8 G B hr RB
      have WB := CfM.whole_bd h8 G B hr RB
      have WA := fun i hi => CfM.weigh_at hR h8 hk G B RB i hi
      have WE := CfM.weigh_end hR h8 hk G B RB
      have SR := CfM.step_rest hR h8 hk G B RB
      have SG := CfM.step_good hR hk G
      have SSB := fun s' e => CfM.step_sb hR h8 hk G B RB (s' := s') e
      have e0 : CfM.g (CfM.row R kk) 0 = c := by rw [er]; rfl
      have stepE : CfM.stepS R.length kk (CfM.row R kk) st = CfM.stepS R.length kk (c :: cs) st := by rw [er]
      have etl : (CfM.row R kk).tail = cs := ecf
      rw [etl] at TB TA LB WB
      rw [ecf] at G1 WA WE SR
      rw [e0] at LB SR
      rw [stepE] at SG SSB
      have l8 : st.pins.length ≤ 8 := by have := G.len; omega
      have f8 : st.free.length ≤ 8 := by have := G.len; omega
      have m9 : CfM.mm (st.pins.length + 1) ≤ 12000000 := Nat.le_trans (CfM.mm_mono (show st.pins.length + 1 ≤ 9 by omega)) (by decide +kernel)
      have j9 : CfM.jj (st.pins.length + 1) ≤ 35000000 := Nat.le_trans (CfM.jj_mono (show st.pins.length + 1 ≤ 9 by omega)) (by decide +kernel)
      have v8 : CfM.vv st.pins.length ≤ 1000000 := Nat.le_trans (CfM.vv_mono l8) CfM.vv8
      have m8 : CfM.mm st.pins.length ≤ 12000000 := Nat.le_trans (CfM.mm_mono (Nat.le_succ _)) m9
      have coef : ∀ i, (CfM.g cs i).natAbs ≤ 2 ^ 40 := fun i => by rw [← etl]; exact RB.coef i
      -- at = turned(columns, inverse, free, coefs)
      refine ⟨.ref cA, rfl, .ref iA, rfl, .ref fA, rfl, .ref co, rfl, ?_⟩
      refine ⟨cA, iA, fA, co, st.cols, st.inv, st.free, cs, wd, CfM.mm (st.pins.length + 1), CfM.jj (st.pins.length + 1), (fun t => t ≠ fA ∧ t ≠ pA), rfl, fun t ht => ⟨(ne_of_none (s67 _ _ eF) ht).symm, by obtain ⟨tz, ez, _⟩ := hPn7; exact (ne_of_none ez ht).symm⟩, nci, ⟨uc, s67 _ _ eC, mat_same s67 pC, nuc⟩, ⟨ui, s67 _ _ eI, mat_same s67 pI, nui⟩, ⟨s67 _ _ eF, nfc, nfi⟩, ⟨eCo, ncc, nci2⟩, G.inverse, G.freeLt, G.freeNd, ⟨h8, f8⟩, hcs, coef, ⟨m9, j9, TB⟩, fun H8 b8 hC8 hI8 => ?_⟩
      have s8 : Same H H8 := same_but2 s7 nC nI b8
      have eF8 := b8 _ _ nfc nfi (s67 _ _ eF)
      have hPn8 : PinsAt H8 pA st.pins := PinsAt.but b8 (s67 _ _ eC) (s67 _ _ eI) npc npi hPn7
      have eCo8 := b8 _ _ ncc nci2 eCo
      have tm : CfM.turnF (CfM.fuelOf st.cols cs st.free) st.cols st.inv st.free cs = CfM.turnM st cs := rfl
      rw [tm] at hC8 hI8 ⊢
      clear b8
      obtain ⟨vc, eC8, pC8, nvc⟩ := hC8
      have I8 := G1.inverse
      obtain ⟨tp, eP8, pP8⟩ := hPn8
      have lP := Paired.length pP8
      have lc8 := I8.wc.len
      -- products
      refine ⟨.ref pA, rfl, pA, rfl, ⟨_, .inl (.inl eP8)⟩, fun D hD => ?_⟩
      have lpn : (tp.map V.ref).length = st.pins.length := by rw [List.length_map]; exact lP
      have ndp : (st.pins.map (·.at_)).Nodup := G.pinsOk.nodup
      have pin_at : ∀ {i : Nat} {v : V}, (tp.map V.ref)[i]? = some v → ∃ t p, v = .ref t ∧ st.pins[i]? = some p ∧ PinAt H8 t p := fun {i v} e => by
        rw [List.getElem?_map] at e
        cases et : tp[i]? with
        | none => rw [et] at e; cases e
        | some t =>
          rw [et] at e
          obtain ⟨p, ep, hp⟩ := paired_get pP8 et
          exact ⟨t, p, (Option.some.inj e).symm, ep, hp⟩
      refine dc_by (goes_list (K := K) (.inl (.inl eP8))) hD (by omega) (fun j => Sum.inl (((st.pins.map (·.at_)).getD j 0 : Nat) : Int)) (fun i j hi hj e => ?_) (fun j z _ => ∃ p, st.pins[j]? = some p ∧ z = .int (CfM.dot cs (CfM.row (CfM.turnM st cs).1 p.at_))) (fun _ _ _ _ _ h => h) (fun j v H9 hj s9 hacc it post hp => ?_) (fun H9 kvs s9 eD hkl hkv => ?_)
      · rw [lpn] at hi hj
        have e3 := Sum.inl.inj e
        have l1 : i < (st.pins.map (·.at_)).length := by rw [List.length_map]; exact hi
        have l2 : j < (st.pins.map (·.at_)).length := by rw [List.length_map]; exact hj
        rw [List.getD_eq_getElem?_getD, List.getD_eq_getElem?_getD, List.getElem?_eq_getElem l1, List.getElem?_eq_getElem l2] at e3
        exact nd_at ndp l1 l2 (Int.ofNat.inj e3)
      · obtain ⟨t, p, rfl, ep, o, et, eo⟩ := pin_at it
        have hpm := List.mem_of_getElem? ep
        have hpa : p.at_ < (CfM.turnM st cs).1.length := by rw [lc8]; exact G.pinLt p hpm
        obtain ⟨ta, eta, eta2⟩ := mat_row pC8 hpa
        have lrow := I8.wc.row (G.pinLt p hpm)
        refine ⟨true, t, .int (p.at_ : Int), _, rfl, .inl (.inl (s9 _ _ et)), by show 4 < 1000; decide, fun Dm hDm => ⟨_, _, rfl, _, _, rfl, rfl, ?_⟩⟩
        have sDm : Same H9 (upd H9 Dm (.lst [.int (p.place : Int), .int p.whole, .ref o, .int p.value])) := same_upd hDm
        generalize upd H9 Dm (.lst [.int (p.place : Int), .int p.whole, .ref o, .int p.value]) = H10 at *
        have s10 := s9.trans sDm
        refine ⟨rfl, _, rfl, .ref co, rfl, .ref cA, rfl, .int (p.at_ : Int), rfl, cA, _, (p.at_ : Int), .ref ta, rfl, rfl, .inl (.inl (s10 _ _ eC8)), atI_nat (by rw [List.getElem?_map, eta]; rfl), ?_⟩
        refine ⟨false, false, co, ta, cs, CfM.row (CfM.turnM st cs).1 p.at_, rfl, .inl (.inl (s10 _ _ eCo8)), .inl (.inl (s10 _ _ eta2)), by omega, fun n x y ex ey => ?_, fun H11 s11 => ?_⟩
        · have b1 := coef n
          have b2 := TA.1 p.at_ n
          rw [g_some ex] at b1
          unfold CfM.ent at b2
          rw [g_some ey] at b2
          exact cmul_of b1 b2 (by omega)
        · have z := hp _ H11 (sDm.trans s11) ⟨p, ep, rfl⟩
          rw [List.getD_eq_getElem?_getD, List.getElem?_map, ep] at z
          exact z
      have ekvs : kvs = encD (CfM.prods (CfM.turnM st cs).1 cs st.pins) := by
        refine enc_eq (by rw [hkl, lpn]; unfold CfM.prods; rw [List.length_map]) fun j z hz => ?_
        obtain ⟨e1, p, ep, e2⟩ := hkv j z hz
        refine ⟨(p.at_, CfM.dot cs (CfM.row (CfM.turnM st cs).1 p.at_)), by unfold CfM.prods; rw [List.getElem?_map, ep]; rfl, ?_, e2⟩
        rw [e1, List.getD_eq_getElem?_getD, List.getElem?_map, ep]
        rfl
      subst ekvs
      have hkp : ∀ p ∈ st.pins, CfM.HasK (CfM.prods (CfM.turnM st cs).1 cs st.pins) p.at_ := fun p hp => by
        unfold CfM.HasK CfM.prods
        rw [List.map_map]
        exact List.mem_map.mpr ⟨p, hp, rfl⟩
      have ndpr : ((CfM.prods (CfM.turnM st cs).1 cs st.pins).map (·.1)).Nodup := by
        unfold CfM.prods
        rw [List.map_map]
        exact ndp
      have lpr : (CfM.prods (CfM.turnM st cs).1 cs st.pins).length ≤ 1000 := by unfold CfM.prods; rw [List.length_map]; omega
      -- left = constant + sum(..)
      refine ⟨.int c, rfl, .ref pA, rfl, pA, rfl, ⟨_, .inl (.inl (s9 _ _ eP8))⟩, fun D2 hD2 => ?_⟩
      refine lc_by (goes_list (K := K) (.inl (.inl (s9 _ _ eP8)))) hD2 (by omega) (fun j z _ => ∃ p, st.pins[j]? = some p ∧ z = .int (CfM.lk (CfM.prods (CfM.turnM st cs).1 cs st.pins) p.at_ * p.value)) (fun _ _ _ _ _ h => h) (fun j v H10 hj s10 hacc it post hp => ?_) (fun H10 zs s10 eD2 hzl hz => ?_)
      · obtain ⟨t, p, rfl, ep, o, et, eo⟩ := pin_at it
        have hpm := List.mem_of_getElem? ep
        refine ⟨t, _, rfl, .inl (.inl (s10 _ _ (s9 _ _ et))), rfl, _, _, rfl, _, _, rfl, _, _, rfl, _, _, rfl, _, _, rfl, rfl, wipe5 (by decide) (by decide) (by decide) (by decide) (by decide), ?_⟩
        have z := DGet.k (k := Sum.inl (p.at_ : Int)) (s10 _ _ eD)
        rw [valV_enc (hkp p hpm)] at z
        have b1 := LB.1 (p.at_, CfM.lk (CfM.prods (CfM.turnM st cs).1 cs st.pins) p.at_) (by
          unfold CfM.prods
          rw [CfM.lk_mapf (fun y : CfM.Pin => y.at_) (fun y => CfM.dot cs (CfM.row (CfM.turnM st cs).1 y.at_)) ndp hpm]
          exact List.mem_map.mpr ⟨p, hpm, rfl⟩)
        exact ⟨.ref D, rfl, .int (p.at_ : Int), rfl, D, _, rfl, z, .int p.value, rfl, CfM.lk (CfM.prods (CfM.turnM st cs).1 cs st.pins) p.at_, p.value, rfl, rfl, cmul_of b1 (B.value p hpm) (by omega), hp _ _ (Same.refl _) ⟨p, ep, rfl⟩⟩
      have ezs : zs = (st.pins.map fun p => CfM.lk (CfM.prods (CfM.turnM st cs).1 cs st.pins) p.at_ * p.value).map V.int := by
        apply List.ext_getElem? fun j => ?_
        rw [List.getElem?_map, List.getElem?_map]
        cases e : zs[j]? with
        | none =>
          have := List.getElem?_eq_none_iff.mp e
          rw [List.getElem?_eq_none (show st.pins.length ≤ j by omega)]
          rfl
        | some z =>
          obtain ⟨p, ep, rfl⟩ := hz j z e
          rw [ep]
          rfl
      subst ezs
      refine ⟨D2, _, rfl, .inl (.inl eD2), c, (st.pins.map fun p => CfM.lk (CfM.prods (CfM.turnM st cs).1 cs st.pins) p.at_ * p.value).sum, rfl, rfl, ?_⟩
      have s810 := s9.trans s10
      have s010 := s8.trans s810
      have eD10 := s10 _ _ eD
      have eC10 := s810 _ _ eC8
      have pC10 := mat_same s810 pC8
      have hI10 : LstMat (fun t => t ≠ fA ∧ t ≠ pA) H10 iA (CfM.turnM st cs).2.1 := by
        obtain ⟨vi, e, p, n⟩ := hI8
        exact ⟨vi, s810 _ _ e, mat_same s810 p, n⟩
      have eF10 := s810 _ _ eF8
      have hPn10 : PinsAt H10 pA st.pins := PinsAt.same s810 ⟨tp, eP8, pP8⟩
      have eCo10 := s810 _ _ eCo8
      clear hz hkv eD2 hD2 hD eP8 hI8 pP8 pin_at
      have hleft : c + (st.pins.map fun p => CfM.lk (CfM.prods (CfM.turnM st cs).1 cs st.pins) p.at_ * p.value).sum = CfM.leftOf c (CfM.prods (CfM.turnM st cs).1 cs st.pins) st.pins := rfl
      have hrun2 : CfM.settledM R wd = match (match CfM.stepS R.length kk (c :: cs) st with
          | .inl s' => CfM.runS R.length (kk + 1) (R.drop (kk + 1)) s'
          | .inr z => .inr z) with
        | .inl s => CfM.endS wd s
        | .inr z => z := by
        rw [hrun, List.drop_eq_getElem_cons hk]
        have : R[kk] = c :: cs := by
          rw [← er]
          unfold CfM.row
          rw [List.getD_eq_getElem?_getD, List.getElem?_eq_getElem hk]
          rfl
        rw [this]
        rfl
      have lenE : (tsR.map V.ref).length = R.length := by rw [List.length_map]; exact lR
      have vsE : [V.int ((tsR.map V.ref).length : Int), .ref pA, .ref D, .int ((kk : Nat) : Int)] = [V.int (R.length : Int), .ref pA, .ref D, .int ((kk : Nat) : Int)] := by rw [lenE]
      have fP : ∀ p ∈ st.pins, p.whole ≠ 0 ∧ p.place < R.length ∧ CfM.HasK (CfM.prods (CfM.turnM st cs).1 cs st.pins) p.at_ ∧ p.others.length ≤ 1000 ∧ ∀ x ∈ p.others, CfM.HasK (CfM.prods (CfM.turnM st cs).1 cs st.pins) x.1 := fun p hp => by
        refine ⟨(G.pinsOk.whole p hp).2, Nat.lt_trans (G.place p hp) hk, hkp p hp, ?_, fun x hx => ?_⟩
        · have := others_len G.pinsOk p hp
          omega
        · obtain ⟨y, hy, rfl⟩ := (G.pinsOk.others p hp).2 x hx
          exact hkp y hy
      have fB : ∀ p ∈ st.pins, p.whole.natAbs ≤ 2 ^ CfM.LW ∧ ∀ x ∈ p.others, x.2.natAbs ≤ 2 ^ CfM.LW := fun p hp => by
        refine ⟨?_, fun x hx => ?_⟩
        · exact Nat.le_trans (B.whole p hp) (CfM.p2 (Nat.add_le_add_left (CfM.mm_mono l8) _))
        · exact Nat.le_trans (B.others p hp x hx) (CfM.p2 (Nat.add_le_add_left (CfM.mm_mono l8) _))
      have fI : ∀ i, i ≤ st.pins.length → CfM.WBd (2 ^ CfM.XB CfM.LW 8) ((st.pins.reverse.take i).foldl CfM.wstep (CfM.wstart R.length (CfM.prods (CfM.turnM st cs).1 cs st.pins) kk)) ∧ ((st.pins.reverse.take i).foldl CfM.wstep (CfM.wstart R.length (CfM.prods (CfM.turnM st cs).1 cs st.pins) kk)).1.length = R.length := fun i hi => by
        obtain ⟨w1, w2⟩ := WA i hi
        have up : 2 ^ CfM.XB CfM.LW i ≤ 2 ^ CfM.XB CfM.LW 8 := CfM.p2 (CfM.XB_mono (Nat.le_trans hi l8))
        exact ⟨⟨fun j => Nat.le_trans (w1.ws j) up, Nat.le_trans w1.often up, fun x hx => Nat.le_trans (w1.left x hx) up⟩, w2⟩
      have GW := G1.weigh hR hk
      rw [ecf] at GW
      have lWM : (CfM.weighedM R.length st.pins (CfM.prods (CfM.turnM st cs).1 cs st.pins) kk).1.length ≤ 1000 := by
        have e : (CfM.weighedM R.length st.pins (CfM.prods (CfM.turnM st cs).1 cs st.pins) kk).1.length = R.length := GW.len
        omega
      have eRa := s010 _ _ eR
      rcases hres : (CfM.turnM st cs).2.2 with _ | a
      · -- at is None
        refine ⟨.non, rfl, _, rfl, ?_⟩
        refine iteT ?_
        refine ⟨.int (CfM.leftOf c (CfM.prods (CfM.turnM st cs).1 cs st.pins) st.pins), rfl, rfl, _, rfl, ?_⟩
        by_cases hz : (CfM.leftOf c (CfM.prods (CfM.turnM st cs).1 cs st.pins) st.pins) = 0
        · rw [decide_eq_true (by rw [hz])]
          refine iteF ⟨.non, rfl, _, rfl, iteF ?_⟩
          have e1 := step_none (many := R.length) (kk := kk) hres hz
          rw [e1] at hrun2
          rcases SG with ⟨s', e2, G'⟩ | ⟨ws, d, e2, _⟩
          · rw [e1] at e2
            have e3 := Sum.inl.inj e2
            subst e3
            exact ⟨_, _, _, _, _, _, _, _, _, _, _, _, _, _, _, _, _, _, _, _, _, G', SSB _ e1, hrun2, rfl, s010, ⟨vc, eC10, pC10, nvc⟩, hI10, eF10, hPn10⟩
          · rw [e1] at e2
            cases e2
        · have e1 := step_noneR (many := R.length) (kk := kk) hres hz
          rw [e1] at hrun2
          rw [decide_eq_false (fun z => hz (V.int.inj z))]
          refine iteT ?_
          refine ⟨.ref ra, rfl, ra, _, rfl, .inl (.inl (.inl eRa)), .ref pA, rfl, .ref D, rfl, .int ((kk : Nat) : Int), rfl, R.length, kk, pA, D, st.pins, (CfM.prods (CfM.turnM st cs).1 cs st.pins), CfM.LW, CfM.XB CfM.LW 8, vsE, hk, hRl, l8, hPn10, eD10, ndpr, lpr, fP, ⟨big_ok, fB, fI⟩, fun H11 p wa s11 ep ea => ?_⟩
          refine ⟨p, _, rfl, .inl (.inl ep), rfl, _, _, rfl, _, _, rfl, rfl, ?_⟩
          refine ⟨.ref wa, rfl, .int (CfM.weighedM R.length st.pins (CfM.prods (CfM.turnM st cs).1 cs st.pins) kk).2.1, rfl, .int (CfM.leftOf c (CfM.prods (CfM.turnM st cs).1 cs st.pins) st.pins), rfl, (CfM.weighedM R.length st.pins (CfM.prods (CfM.turnM st cs).1 cs st.pins) kk).2.1, (CfM.leftOf c (CfM.prods (CfM.turnM st cs).1 cs st.pins) st.pins), rfl, rfl, cmul_of SR.1 SR.2.1 big_ok2, _, rfl, CfM.absI ((CfM.weighedM R.length st.pins (CfM.prods (CfM.turnM st cs).1 cs st.pins) kk).2.1 * (CfM.leftOf c (CfM.prods (CfM.turnM st cs).1 cs st.pins) st.pins)), 1, rfl, rfl, ?_⟩
          refine ⟨wa, (CfM.weighedM R.length st.pins (CfM.prods (CfM.turnM st cs).1 cs st.pins) kk).1, CfM.absI ((CfM.weighedM R.length st.pins (CfM.prods (CfM.turnM st cs).1 cs st.pins) kk).2.1 * (CfM.leftOf c (CfM.prods (CfM.turnM st cs).1 cs st.pins) st.pins)) + 1, rfl, .inl (.inl ea), lWM, ?_, fun H12 p2 s12 hres2 => ?_⟩
          · rw [CfM.absI_eq]
            omega
          · refine q H12 p2 ((s010.trans s11).trans s12) ?_
            rw [hrun2]
            exact hres2
      · -- at is not None
        have ha := ((G.turned cs).som a hres).1
        have hWne := ((G.turned cs).som a hres).2.1
        have haw := G.freeLt a ha
        refine ⟨.int (a : Int), rfl, _, rfl, ?_⟩
        rw [decide_eq_false (fun z => by cases z)]
        refine iteF (iteF ?_)
        refine ⟨.int (a : Int), rfl, _, rfl, ?_⟩
        rw [decide_eq_false (fun z => by cases z)]
        refine iteT ?_
        -- whole
        obtain ⟨ta, eta, eta2⟩ := mat_row pC10 (i := a) (by rw [lc8]; exact haw)
        have lrow := I8.wc.row haw
        refine ⟨.ref co, rfl, .ref cA, rfl, .int (a : Int), rfl, cA, _, (a : Int), .ref ta, rfl, rfl, .inl (.inl eC10), atI_nat (by rw [List.getElem?_map, eta]; rfl), ?_⟩
        refine ⟨false, false, co, ta, cs, CfM.row (CfM.turnM st cs).1 a, rfl, .inl (.inl eCo10), .inl (.inl eta2), by omega, fun n x y ex ey => ?_, fun H11 s11 => ?_⟩
        · have b1 := coef n
          have b2 := TA.1 a n
          rw [g_some ex] at b1
          unfold CfM.ent at b2
          rw [g_some ey] at b2
          exact cmul_of b1 b2 (by omega)
        have s011 := s010.trans s11
        refine ⟨.int (CfM.leftOf c (CfM.prods (CfM.turnM st cs).1 cs st.pins) st.pins), rfl, .int (CfM.dot cs (CfM.row (CfM.turnM st cs).1 a)), rfl, (CfM.leftOf c (CfM.prods (CfM.turnM st cs).1 cs st.pins) st.pins), (CfM.dot cs (CfM.row (CfM.turnM st cs).1 a)), rfl, rfl, hWne, rfl, _, rfl, ?_⟩
        by_cases hz : (CfM.leftOf c (CfM.prods (CfM.turnM st cs).1 cs st.pins) st.pins).fmod (CfM.dot cs (CfM.row (CfM.turnM st cs).1 a)) = 0
        · have e1 := step_some (many := R.length) (kk := kk) hres hz
          rw [e1] at hrun2
          rw [decide_eq_true (show V.int ((CfM.leftOf c (CfM.prods (CfM.turnM st cs).1 cs st.pins) st.pins).fmod (CfM.dot cs (CfM.row (CfM.turnM st cs).1 a))) = V.int 0 by rw [hz])]
          refine iteF ?_
          -- free.remove(at)
          obtain ⟨j, d1, d2, d3⟩ := nats_drop ha
          have eF11 := s11 _ _ eF10
          rw [nats_ints] at eF11
          refine ⟨.ref fA, rfl, .inl ⟨rfl, _, .inl (.inl eF11)⟩, .int (a : Int), rfl, fA, _, (a : Int), j, rfl, rfl, eF11, d1, d2, ?_⟩
          rw [d3]
          have eC11 := s11 _ _ eC10
          have pC11 := mat_same s11 pC10
          obtain ⟨vi, eI10, pI10, nvi⟩ := hI10
          have eI11 := s11 _ _ eI10
          have pI11 := mat_same s11 pI10
          obtain ⟨tq, eP10, pP10⟩ := hPn10
          have eP11 := s11 _ _ eP10
          have eD11 := s11 _ _ eD10
          have pP11 : Paired (PinAt H11) tq st.pins := Paired.mapP pP10 fun _ _ z => z.same s11
          have lPq := Paired.length pP10
          -- pins.append(..)
          have hE : (upd H11 fA (.lst (natsV (st.free.erase a)))) pA = some (.lst (tq.map V.ref)) := by rw [upd_ne npf]; exact eP11
          refine ⟨.ref pA, rfl, .inl ⟨rfl, _, .inl (.inl hE)⟩, .int (a : Int), rfl, .int ((kk : Nat) : Int), rfl, .int (CfM.dot cs (CfM.row (CfM.turnM st cs).1 a)), rfl, .ref D, rfl, .int (CfM.leftOf c (CfM.prods (CfM.turnM st cs).1 cs st.pins) st.pins), rfl, _, rfl, .int (CfM.dot cs (CfM.row (CfM.turnM st cs).1 a)), rfl, _, (CfM.dot cs (CfM.row (CfM.turnM st cs).1 a)), rfl, rfl, hWne, by show 5 ≤ sizeLine; decide, fun t5 ht5 => ?_⟩
          have npt : pA ≠ t5 := ne_of_none hE ht5
          refine ⟨pA, _, _, rfl, rfl, by rw [upd_ne npt]; exact hE, by rw [List.length_map]; exact small1000 (by omega), ?_⟩
          rcases SG with ⟨s', e2, G'⟩ | ⟨ws, d, e2, _⟩
          · rw [e1] at e2
            have e3 := Sum.inl.inj e2
            subst e3
            have nDf : D ≠ fA := ne_of eD11 eF11 (by intro z; cases z)
            have b2 : ∀ {x : Addr} {o : HO}, x ≠ fA → x ≠ pA → H11 x = some o → (upd (upd (upd H11 fA (.lst (natsV (st.free.erase a)))) t5 (.tup [.int (a : Int), .int ((kk : Nat) : Int), .int (CfM.dot cs (CfM.row (CfM.turnM st cs).1 a)), .ref D, .int ((-(CfM.leftOf c (CfM.prods (CfM.turnM st cs).1 cs st.pins) st.pins)).fdiv (CfM.dot cs (CfM.row (CfM.turnM st cs).1 a)))])) pA (.lst (tq.map V.ref ++ [.ref t5]))) x = some o := fun {x o} n1 n2 e => by
              have e0 : (upd H11 fA (.lst (natsV (st.free.erase a)))) x = some o := by rw [upd_ne n1]; exact e
              rw [upd_ne n2, upd_ne (ne_of_none e0 ht5)]
              exact e0
            have xf : ∀ {x : Addr} {vs : List V}, H11 x = some (.tup vs) → x ≠ fA := fun e => ne_of e eF11 (by intro z; cases z)
            have xp : ∀ {x : Addr} {vs : List V}, H11 x = some (.tup vs) → x ≠ pA := fun e => ne_of e eP11 (by intro z; cases z)
            have yf : ∀ {x : Addr} {vs : List (Key × V)}, H11 x = some (.dK vs) → x ≠ fA := fun e => ne_of e eF11 (by intro z; cases z)
            have yp : ∀ {x : Addr} {vs : List (Key × V)}, H11 x = some (.dK vs) → x ≠ pA := fun e => ne_of e eP11 (by intro z; cases z)
            have hF2 : (upd H11 fA (.lst (natsV (st.free.erase a)))) fA = some (.lst (natsV (st.free.erase a))) := upd_same
            refine ⟨_, _, _, _, _, _, _, _, _, _, _, _, _, _, _, _, _, _, _, _, _, G', SSB _ e1, hrun2, rfl, fun x o e => b2 (ne_of_none e nF) (ne_of_none e nP) (s011 x o e), ⟨vc, b2 (Ne.symm nfc) (Ne.symm npc) eC11, mat_move pC11 fun t v ht e => b2 (nvc t ht).1 (nvc t ht).2 e, nvc⟩,
              ⟨vi, b2 (Ne.symm nfi) (Ne.symm npi) eI11, mat_move pI11 fun t v ht e => b2 (nvi t ht).1 (nvi t ht).2 e, nvi⟩, ?_, ?_⟩
            · rw [upd_ne (Ne.symm npf), upd_ne (ne_of_none hF2 ht5)]
              exact hF2
            · refine ⟨tq ++ [t5], by rw [upd_same, List.map_append]; rfl, paired_snoc (Paired.mapP pP11 fun t p z => ?_) ?_⟩
              · obtain ⟨o, e3, e4⟩ := z
                exact ⟨o, b2 (xf e3) (xp e3) e3, b2 (yf e4) (yp e4) e4⟩
              · exact ⟨D, by rw [upd_ne (Ne.symm npt), upd_same]; rfl, b2 nDf (yp eD11) eD11⟩
          · rw [e1] at e2
            cases e2
        · have e1 := step_someR (many := R.length) (kk := kk) hres hz
          rw [e1] at hrun2
          rw [decide_eq_false (fun z => hz (V.int.inj z))]
          refine iteT ?_
          refine ⟨.ref ra, rfl, ra, _, rfl, .inl (.inl (.inl (s11 _ _ eRa))), .ref pA, rfl, .ref D, rfl, .int ((kk : Nat) : Int), rfl, R.length, kk, pA, D, st.pins, (CfM.prods (CfM.turnM st cs).1 cs st.pins), CfM.LW, CfM.XB CfM.LW 8, vsE, hk, hRl, l8, hPn10.same s11, s11 _ _ eD10, ndpr, lpr, fP, ⟨big_ok, fB, fI⟩, fun H12 p wa s12 ep ea => ?_⟩
          refine ⟨p, _, rfl, .inl (.inl ep), rfl, _, _, rfl, _, _, rfl, rfl, ?_⟩
          have absW : (CfM.absI (CfM.dot cs (CfM.row (CfM.turnM st cs).1 a))).natAbs ≤ 2 ^ CfM.LW := by
            rw [CfM.absI_eq, Int.natAbs_natCast]
            exact SR.2.2 ⟨a, hres⟩ a
          refine ⟨.ref wa, rfl, .int (CfM.weighedM R.length st.pins (CfM.prods (CfM.turnM st cs).1 cs st.pins) kk).2.1, rfl, .int (CfM.dot cs (CfM.row (CfM.turnM st cs).1 a)), rfl, (CfM.dot cs (CfM.row (CfM.turnM st cs).1 a)), rfl, (CfM.weighedM R.length st.pins (CfM.prods (CfM.turnM st cs).1 cs st.pins) kk).2.1, CfM.absI (CfM.dot cs (CfM.row (CfM.turnM st cs).1 a)), rfl, rfl, cmul_of SR.1 absW big_ok3, ?_⟩
          refine ⟨wa, (CfM.weighedM R.length st.pins (CfM.prods (CfM.turnM st cs).1 cs st.pins) kk).1, (CfM.weighedM R.length st.pins (CfM.prods (CfM.turnM st cs).1 cs st.pins) kk).2.1 * CfM.absI (CfM.dot cs (CfM.row (CfM.turnM st cs).1 a)), rfl, .inl (.inl ea), lWM, ?_, fun H13 p2 s13 hres2 => ?_⟩
          · refine Int.mul_pos (Int.lt_of_lt_of_le (by decide) (show 1 ≤ (CfM.weighedM R.length st.pins (CfM.prods (CfM.turnM st cs).1 cs st.pins) kk).2.1 from GW.pos)) ?_
            rw [CfM.absI_eq]
            omega
          · refine q H13 p2 ((s011.trans s12).trans s13) ?_
            rw [hrun2]
            exact hres2
    · obtain ⟨st, z2, z3, z8, z9, z10, z11, z12, z13, z14, z15, z16, z17, z18, z19, z20, z21, z22, z23, z24, z25, G, B, hrun, rfl, sm, ⟨uc, eC, pC, _⟩, ⟨ui, eI, pI, _⟩, eF, ⟨tp, eP, pP⟩⟩ := hP
      have lenE : (tsR.map V.ref).length = R.length := by rw [List.length_map]; exact lR
      rw [lenE] at G hrun
      rw [List.drop_length] at hrun
      have hend : CfM.settledM R wd = CfM.endS wd st := hrun
      clear hrun
      have l8 : st.pins.length ≤ 8 := by have := G.len; omega
      have f8 : st.free.length ≤ 8 := by have := G.len; omega
      have v8 : CfM.vv st.pins.length ≤ 1000000 := Nat.le_trans (CfM.vv_mono l8) CfM.vv8
      have m8 : CfM.mm st.pins.length ≤ 12000000 := Nat.le_trans (CfM.mm_mono l8) (by decide +kernel)
      have lP := Paired.length pP
      have lC := G.inverse.wc.len
      have lI := G.inverse.wi.len
      -- point
      refine ⟨.int (wd : Int), rfl, (wd : Int), rfl, by omega, by omega, fun Dp hDp => ?_⟩
      rw [Int.toNat_natCast]
      refine lc_rangeI (fun _ => 0) (by omega) hDp (fun _ => rfl) (fun i H3 post hi s hp => hp) (fun H7 s7 eD7 => ?_)
      have eD7 : H7 Dp = some (.lst ((List.replicate wd (0 : Int)).map V.int)) := by
        rw [eD7, List.map_const', List.length_range]
      have frow : ∀ p ∈ st.pins, (CfM.row st.cols p.at_).length = wd := fun p hp => G.inverse.wc.row (G.pinLt p hp)
      refine ⟨.ref pA, rfl, pA, rfl, ⟨_, .inl (.inl (s7 _ _ eP))⟩, ?_⟩
      refine for_list (xs := tp.map V.ref) (fun i σ H' => ∃ (D : Addr) (z2 z3 z8 z9 z10 z11 z12 z13 z14 z15 z16 z17 z18 z19 z21 z22 z23 z24 z25 : Option V), σ = [some (.ref ra), some (.int (wd : Int)), z2, z3, some (.ref cA), some (.ref iA), some (.ref fA), some (.ref pA), z8, z9, z10, z11, z12, z13, z14, z15, z16, z17, z18, z19, some (.ref D), z21, z22, z23, z24, z25] ∧ Same H7 H' ∧
          H' D = some (.lst (((st.pins.take i).foldl (fun pt p => CfM.ax p.value pt (CfM.row st.cols p.at_)) (List.replicate wd 0)).map V.int)))
        ⟨Dp, _, _, _, _, _, _, _, _, _, _, _, _, _, _, _, _, _, _, _, rfl, Same.refl _, eD7⟩ (fun i σ H' _ hP => ?_) (fun i x σ H' hx hP => ?_) (fun σ H' hP => ?_)
      · obtain ⟨_, _, _, _, _, _, _, _, _, _, _, _, _, _, _, _, _, _, _, _, _, s8, _⟩ := hP
        exact .inl (.inl (s8 _ _ (s7 _ _ eP)))
      · obtain ⟨D, z2, z3, z8, z9, z10, z11, z12, z13, z14, z15, z16, z17, z18, z19, z21, z22, z23, z24, z25, rfl, s8, eD⟩ := hP
        rw [List.getElem?_map] at hx
        have hxi : i < tp.length := by
          rcases Nat.lt_or_ge i tp.length with z | z
          · exact z
          · rw [List.getElem?_eq_none z] at hx; cases hx
        have et : tp[i]? = some tp[i] := List.getElem?_eq_getElem hxi
        rw [et] at hx
        have hx := (Option.some.inj hx).symm
        subst hx
        obtain ⟨p, ep, o, e1, e2⟩ := paired_get pP et
        generalize tp[i] = t at *
        have hpm := List.mem_of_getElem? ep
        have s78 := s7.trans s8
        obtain ⟨ta, eta, eta2⟩ := mat_row pC (i := p.at_) (by rw [lC]; exact G.pinLt p hpm)
        have lpt : ((st.pins.take i).foldl (fun pt p => CfM.ax p.value pt (CfM.row st.cols p.at_)) (List.replicate wd 0)).length = wd := (CfM.point_fold (st.pins.take i) (List.replicate wd 0) (by rw [List.length_replicate]) fun p hp => frow p (List.mem_of_mem_take hp)).1
        have etk : (st.pins.take (i + 1)).foldl (fun pt p => CfM.ax p.value pt (CfM.row st.cols p.at_)) (List.replicate wd 0) = CfM.ax p.value ((st.pins.take i).foldl (fun pt p => CfM.ax p.value pt (CfM.row st.cols p.at_)) (List.replicate wd 0)) (CfM.row st.cols p.at_) := by
          rw [List.take_add_one, ep, List.foldl_append]
          rfl
        rw [etk]
        generalize (st.pins.take i).foldl (fun pt p => CfM.ax p.value pt (CfM.row st.cols p.at_)) (List.replicate wd 0) = pt at *
        refine ⟨t, _, rfl, .inl (.inl (s78 _ _ e1)), rfl, _, _, rfl, _, _, rfl, _, _, rfl, _, _, rfl, _, _, rfl, rfl, ?_⟩
        refine ⟨.ref D, rfl, .ref cA, rfl, .int (p.at_ : Int), rfl, cA, _, (p.at_ : Int), .ref ta, rfl, rfl, .inl (.inl (s78 _ _ eC)), atI_nat (by rw [List.getElem?_map, eta]; rfl), ?_⟩
        refine ⟨false, false, D, ta, _, _, rfl, .inl (.inl eD), .inl (.inl (s78 _ _ eta2)), fun Dn hDn => ?_⟩
        refine lc_zipI (K := K) (t := false) (u := false) (fun x y => x + p.value * y) (.inl (.inl eD)) (.inl (.inl (s78 _ _ eta2))) (by omega) hDn (fun _ _ => rfl) (fun n x y H6 post f1 f2 s6 hpost => ?_) (fun H6 s6 e6 => ?_)
        · have b2 := B.cols p.at_ n
          unfold CfM.ent at b2
          rw [g_some f2] at b2
          exact ⟨.int x, rfl, .int p.value, rfl, .int y, rfl, p.value, y, rfl, rfl, cmul_of (B.value p hpm) b2 (by omega), x, _, rfl, rfl, hpost⟩
        · exact ⟨Dn, _, _, _, _, _, _, _, _, _, _, _, _, _, _, _, _, _, _, _, rfl, s8.trans s6, e6⟩
      · obtain ⟨D, z2, z3, z8, z9, z10, z11, z12, z13, z14, z15, z16, z17, z18, z19, z21, z22, z23, z24, z25, rfl, s8, eD⟩ := hP
        rw [List.length_map, lP, List.take_length] at eD
        have eD : H' D = some (.lst ((CfM.pointOf wd st.cols st.pins).map V.int)) := eD
        have s78 := s7.trans s8
        have eC' := s78 _ _ eC
        have pC' := mat_same s78 pC
        have eI' := s78 _ _ eI
        have pI' := mat_same s78 pI
        have eF' := s78 _ _ eF
        have s0 := sm.trans s78
        clear s8 s7 eD7 hDp
        have lfr : (natsV st.free).length = st.free.length := List.length_map _
        have rfr : ∀ {M : List (List Int)} {i a : Nat}, st.free[i]? = some a → CfM.row (st.free.map (CfM.row M)) i = CfM.row M a := fun {M i a} e => by
          show (st.free.map (CfM.row M)).getD i [] = _
          rw [List.getD_eq_getElem?_getD, List.getElem?_map, e]
          rfl
        -- moves
        refine ⟨.ref fA, rfl, fA, rfl, ⟨_, .inl (.inl eF')⟩, fun Dm hDm => ?_⟩
        refine lc_mat (fun v => .tup (v.map V.int)) (goes_list (K := K) (.inl (.inl eF'))) hDm (by omega) (st.free.map (CfM.row st.cols)) (by rw [List.length_map]; omega) (fun i v H9 hi s9 it post hp => ?_) (fun H9 tm s9 eM pM => ?_)
        · obtain ⟨a, ea, rfl⟩ := nats_at it
          obtain ⟨ta, eta, eta2⟩ := mat_row pC' (i := a) (by rw [lC]; exact G.freeLt a (List.mem_of_getElem? ea))
          rw [rfr ea] at hp
          exact ⟨rfl, .ref cA, rfl, .int (a : Int), rfl, cA, _, (a : Int), .ref ta, rfl, rfl, .inl (.inl (s9 _ _ eC')), atI_nat (by rw [List.getElem?_map, eta]; rfl), ta, _, rfl, .inl ⟨.inl (.inl (s9 _ _ eta2)), fun l hl => hp l _ (same_upd hl) hl upd_same⟩⟩
        refine ⟨Dm, _, rfl, .inl ⟨.inl (.inl eM), fun am ham => ?_⟩⟩
        have s10 : Same H9 (upd H9 am (.tup (tm.map V.ref))) := same_upd ham
        have hTM : TupMat (upd H9 am (.tup (tm.map V.ref))) am (st.free.map (CfM.row st.cols)) := ⟨tm, upd_same, Paired.mapP pM fun _ _ z => s10 _ _ z⟩
        generalize upd H9 am (.tup (tm.map V.ref)) = H10 at *
        have s910 := s9.trans s10
        -- return ('base', tuple(point), moves, tuple([..]))
        refine ⟨.ref D, rfl, D, _, rfl, .inl ⟨.inl (.inl (s910 _ _ eD)), fun at_ hat => ?_⟩⟩
        have s11 : Same H10 (upd H10 at_ (.tup ((CfM.pointOf wd st.cols st.pins).map V.int))) := same_upd hat
        have ePt : (upd H10 at_ (.tup ((CfM.pointOf wd st.cols st.pins).map V.int))) at_ = some (.tup ((CfM.pointOf wd st.cols st.pins).map V.int)) := upd_same
        generalize upd H10 at_ (.tup ((CfM.pointOf wd st.cols st.pins).map V.int)) = H11 at *
        have s911 := s910.trans s11
        refine ⟨.ref am, rfl, .ref fA, rfl, fA, rfl, ⟨_, .inl (.inl (s911 _ _ eF'))⟩, fun Dr hDr => ?_⟩
        refine lc_mat (fun v => .tup (v.map V.int)) (goes_list (K := K) (.inl (.inl (s911 _ _ eF')))) hDr (by omega) (st.free.map (CfM.row st.inv)) (by rw [List.length_map]; omega) (fun i v H12 hi s12 it post hp => ?_) (fun H12 tr s12 eR2 pR2 => ?_)
        · obtain ⟨a, ea, rfl⟩ := nats_at it
          obtain ⟨ta, eta, eta2⟩ := mat_row pI' (i := a) (by rw [lI]; exact G.freeLt a (List.mem_of_getElem? ea))
          rw [rfr ea] at hp
          exact ⟨rfl, .ref iA, rfl, .int (a : Int), rfl, iA, _, (a : Int), .ref ta, rfl, rfl, .inl (.inl (s12 _ _ (s911 _ _ eI'))), atI_nat (by rw [List.getElem?_map, eta]; rfl), ta, _, rfl, .inl ⟨.inl (.inl (s12 _ _ (s911 _ _ eta2))), fun l hl => hp l _ (same_upd hl) hl upd_same⟩⟩
        refine ⟨Dr, _, rfl, .inl ⟨.inl (.inl eR2), fun ar har => ?_⟩⟩
        have s13 : Same H12 (upd H12 ar (.tup (tr.map V.ref))) := same_upd har
        have hTR : TupMat (upd H12 ar (.tup (tr.map V.ref))) ar (st.free.map (CfM.row st.inv)) := ⟨tr, upd_same, Paired.mapP pR2 fun _ _ z => s13 _ _ z⟩
        generalize upd H12 ar (.tup (tr.map V.ref)) = H13 at *
        refine ⟨by show 4 ≤ sizeLine; decide, fun p hp => ?_⟩
        have s14 : Same H13 (upd H13 p (.tup [.str "base", .ref at_, .ref am, .ref ar])) := same_upd hp
        refine q _ p ((((s0.trans s911).trans s12).trans s13).trans s14) ?_
        rw [hend]
        have s1114 := (s12.trans s13).trans s14
        exact ⟨at_, am, ar, upd_same, s1114 _ _ ePt, (hTM.same s11).same s1114, hTR.same s14⟩
end
end CfW

namespace CfW
open PySem PySem.Spec PyProof.Rows L2 CfX
/-! ### a def with keyword-only names that have no defaults -/
theorem kbn_of {K : PySem.W.Frag} {x qual : Str} {st : Stmt} {f : Addr} {fd : FuncData} {ps ks : List Str} {n : Nat} (F : Fun K x qual st f fd)
    (h : ∀ (kV doc pm : Value) (an : Option Addr) (cdv ct : Value) (us ws : List Value), us.length = n → ws.length = ks.length → bindArgs (PySem.W.fnOf x qual (defArgs st) (defBody st) (defScope st) .none kV doc pm an cdv ct) ⟨us, ks.zip ws⟩ = pure (ps.zip (us ++ ws))) :
    KBn K fd ps n ks (fun us ws => us ++ ws) (fun vs zs => vs ++ zs) := by
  obtain ⟨oc, od, kV, doc, pm, an, cdv, ct, osl, rfl, lk, hcd⟩ := F.ex
  exact ⟨fun s us ws X l1 l2 => BindsTo.of_eq (h kV doc pm an cdv ct us ws l1 l2), fun r1 r2 => r1.append r2⟩
theorem kb_settled {K : PySem.W.Frag} {f : Addr} {fd : FuncData} (F : Fun K "settled" "settled" sSettled f fd) : KBn K fd ["rows", "width"] 1 ["width"] (fun us ws => us ++ ws) (fun vs zs => vs ++ zs) :=
  kbn_of F fun _ _ _ _ _ _ us ws h1 h2 => match us, ws, h1, h2 with | [_], [_], _, _ => rfl
theorem kb_added {K : PySem.W.Frag} {f : Addr} {fd : FuncData} (F : Fun K "added" "added" sAdded f fd) : KBn K fd ["rows", "weights", "width"] 2 ["width"] (fun us ws => us ++ ws) (fun vs zs => vs ++ zs) :=
  kbn_of F fun _ _ _ _ _ _ us ws h1 h2 => match us, ws, h1, h2 with | [_, _], [_], _, _ => rfl
theorem kb_shows {K : PySem.W.Frag} {f : Addr} {fd : FuncData} (F : Fun K "shows_rest" "shows_rest" sShows f fd) : KBn K fd ["rows", "thing", "width"] 2 ["width"] (fun us ws => us ++ ws) (fun vs zs => vs ++ zs) :=
  kbn_of F fun _ _ _ _ _ _ us ws h1 h2 => match us, ws, h1, h2 with | [_, _], [_], _, _ => rfl
/-! ### is_whole -/
abbrev IsW (K : PySem.W.Frag) (f : Addr) (fd : FuncData) : Prop := FunD K "is_whole" "is_whole" (defArgs sWhole) (defBody sWhole) (defScope sWhole) [] [("least", .non), ("most", .non)] f fd
theorem isw_b0 {K : PySem.W.Frag} {f : Addr} {fd : FuncData} (F : IsW K f fd) : ∃ ds, Vals [V.non, V.non] ds ∧ Binds K fd ["thing", "least", "most"] ds :=
  F.binds0 1 (by simp) rfl fun D doc pm an cdv ct us ks h1 h2 => match us, ks, h1, h2 with | [_], [_, _], _, _ => ⟨_, _, _, _, _, _, rfl, rfl, _, _, _, _, _, _, rfl, rfl, rfl⟩
theorem isw_b1 {K : PySem.W.Frag} {f : Addr} {fd : FuncData} (F : IsW K f fd) : ∃ mv : List Value, KBn K fd ["thing", "least", "most"] 1 ["least"] (fun us ws => us ++ (ws ++ mv)) (fun vs zs => vs ++ (zs ++ [V.non])) := by
  obtain ⟨oc, od, dV, kV, doc, pm, an, cdv, ct, osl, rfl, lk, hcd, hD, hK⟩ := F.ex
  rcases hD with ⟨_, rfl⟩ | ⟨e, _⟩
  · rcases hK with e | ⟨D, rfl, hq⟩
    · cases e
    · obtain ⟨mv, hl, rk, hks⟩ := kwd_vals (ms := [("most", V.non)]) fun q hm => hq q (List.mem_cons_of_mem _ hm)
      refine ⟨mv, ⟨fun s us ws X l1 l2 => ?_, fun r1 r2 => r1.append (r2.append rk)⟩⟩
      refine BindsTo.of_looks fun M => KwChain.looks X hks ?_
      match us, ws, mv, l1, l2, hl with
      | [_], [_], [_], _, _, _ => exact ⟨_, _, _, _, _, _, rfl, rfl, rfl⟩
  · exact absurd rfl e
theorem scWhole : FnScope ["thing", "least", "most"] ["thing", "least", "most"] (defScope sWhole) := ⟨rfl, rfl, rfl, by decide +kernel, rfl, by decide +kernel, by decide +kernel⟩
theorem kind_int {K : PySem.W.Frag} : PySem.W.kitOne K (.type "int") (.type "int") = some true := kit_ty (by decide +kernel)
theorem kind_ib {K : PySem.W.Frag} : PySem.W.kitOne K (.type "int") (.type "bool") = some false := kit_ty (by decide +kernel)
theorem kind_bb {K : PySem.W.Frag} : PySem.W.kitOne K (.type "bool") (.type "bool") = some true := kit_ty (by decide +kernel)
theorem kind_tt {K : PySem.W.Frag} : PySem.W.kitOne K (.type "tuple") (.type "tuple") = some true := kit_ty (by decide +kernel)
def spWhole : Sp := fun vs H Q _ => ∃ (x : Int) (lv : V), vs = [.int x, lv, .non] ∧ (lv = .non ∨ ∃ m : Int, lv = .int m ∧ m ≤ x) ∧ Q (.bl true) H
section
variable {P : Program} {w : World} {K : PySem.W.Frag} {mg : Str → Option Value} {base : Heap}
theorem ok_whole {f : Addr} {fd : FuncData} {k : Nat} (F : IsW K f fd) (mi : mg "int" = none) (mb : mg "bool" = none) (ms : mg "isinstance" = none) : FnOk P w K mg base CX0 (k + 1) f fd ["thing", "least", "most"] spWhole := by
  refine F.ok scWhole (fun vs H Q E h => ?_) (fun cdv A outer s H vs Q E hr h => ?_)
  · obtain ⟨_, _, rfl, _⟩ := h
    rfl
  · obtain ⟨x, lv, rfl, hl, q⟩ := h
    refine ⟨_, PSs.nox (pss_cons (ps_if (PW.pt (pw_or (pt_not (pt_val (pe_callB call_isi (by rfl) ms (by decide +kernel) (pa_cons (pv 0) (pa_cons (pe_bltn (v := .ty "int") (by rfl) mi (by decide +kernel) rfl) pa_nil)))))
          (pw_or1 (pt_val (pe_callB call_isi (by rfl) ms (by decide +kernel) (pa_cons (pv 0) (pa_cons (pe_bltn (v := .ty "bool") (by rfl) mb (by decide +kernel) rfl) pa_nil)))))))
        (pss_one (ps_ret pe_bl)) pss_nil)
      (pss_cons (ps_if (PW.pt (pw_and (pt_cmp (pc_notN (pv 1))) (pw_and1 (pt_cmpR op_lt (pv 0) (pv 1) (nomark _))))) (pss_one (ps_ret pe_bl)) pss_nil)
      (pss_one (ps_ret (pe_or (pe_cmp (pc_isN (pv 2))) (pe_one (pe_cmpR op_le (pv 0) (pv 2) (nomark _)))))))), ?_⟩
    refine ⟨.int x, rfl, .int x, .ty "int", .type "int", .type "int", true, rfl, .ty _, .base (.int _), kind_int, _, rfl, ?_⟩
    refine iteF ⟨.int x, rfl, .int x, .ty "bool", .type "int", .type "bool", false, rfl, .ty _, .base (.int _), kind_ib, _, rfl, iteF ?_⟩
    rcases hl with rfl | ⟨m, rfl, hm⟩
    · exact ⟨.non, rfl, _, rfl, iteF (iteF ⟨.non, rfl, _, rfl, iteT q⟩)⟩
    · refine ⟨.int m, rfl, _, rfl, ?_⟩
      rw [decide_eq_false (fun z => by cases z)]
      refine iteT ⟨.int x, rfl, .int m, rfl, x, m, rfl, rfl, _, rfl, ?_⟩
      rw [decide_eq_false (by omega)]
      exact iteF ⟨.non, rfl, _, rfl, iteT q⟩
end
end CfW

namespace CfW
open PySem PySem.Spec PyProof.Rows L2 CfX
theorem scLwhole : FnScope ["_law_thing"] ["_law_thing"] (defScope sLwhole) := ⟨rfl, rfl, rfl, by decide +kernel, rfl, by decide +kernel, by decide +kernel⟩
theorem scLsays : FnScope ["_law_found", "_law_due"] ["_law_found", "_law_due"] (defScope sLsays) := ⟨rfl, rfl, rfl, by decide +kernel, rfl, by decide +kernel, by decide +kernel⟩
abbrev nLnumbers : List Str := ["_law_thing", "_law_many", "_law_number_here"]
theorem scLnumbers : FnScope nLnumbers ["_law_thing", "_law_many"] (defScope sLnumbers) := ⟨rfl, rfl, rfl, by decide +kernel, rfl, by decide +kernel, by decide +kernel⟩
abbrev nAdded : List Str := ["rows", "weights", "width", "total", "row", "weight", "at", "coef"]
theorem scAdded : FnScope nAdded ["rows", "weights", "width"] (defScope sAdded) := ⟨rfl, rfl, rfl, by decide +kernel, rfl, by decide +kernel, by decide +kernel⟩
abbrev nShows : List Str := ["rows", "thing", "width", "word", "weights", "d", "constant", "coefs", "weight", "coef"]
theorem scShows : FnScope nShows ["rows", "thing", "width"] (defScope sShows) := ⟨rfl, rfl, rfl, by decide +kernel, rfl, by decide +kernel, by decide +kernel⟩
def spLwhole : Sp := fun vs H Q _ => ∃ x : Int, vs = [.int x] ∧ Q (.bl true) H
def spLsays : Sp := fun vs H Q _ => ∃ a : Bool, vs = [.bl a, .bl a] ∧ Q (.bl true) H
def spLnumbers : Sp := fun vs H Q _ => ∃ (t : Addr) (xs : List Int), vs = [.ref t, .int (xs.length : Int)] ∧ H t = some (.tup (xs.map V.int)) ∧ xs.length ≤ 1000 ∧ ∀ H', Same H H' → Q (.bl true) H'
theorem all_true (n : Nat) : (List.replicate n true).all id = true := by
  rw [List.all_eq_true]
  intro x hx
  rw [(List.mem_replicate.mp hx).2]
  rfl
theorem trues_of {zs : List V} {n : Nat} (hl : zs.length = n) (h : ∀ (i : Nat) (z : V), zs[i]? = some z → z = .bl true) : zs = (List.replicate n true).map V.bl := by
  apply List.ext_getElem? fun i => ?_
  rw [List.getElem?_map]
  by_cases hi : i < n
  · have e := List.getElem?_eq_getElem (show i < zs.length by omega)
    rw [e, h i _ e, List.getElem?_replicate, if_pos hi]
    rfl
  · rw [List.getElem?_eq_none (by omega), List.getElem?_eq_none (by simp; omega)]
    rfl
theorem lit_rest : ((V.str "rest") = V.str "rest") = True := by simp
section
variable {P : Program} {w : World} {K : PySem.W.Frag} {mg : Str → Option Value} {base : Heap}
theorem ok_lwhole {f : Addr} {fd : FuncData} {k : Nat} (F : Fun K "_law_whole" "_law_whole" sLwhole f fd) (mi : mg "int" = none) (mb : mg "bool" = none) (ms : mg "isinstance" = none) : FnOk P w K mg base CX0 (k + 1) f fd ["_law_thing"] spLwhole := by
  refine F.ok scLwhole (fun vs H Q E h => ?_) (fun cdv A outer s H vs Q E hr h => ?_)
  · obtain ⟨_, rfl, _⟩ := h
    rfl
  · obtain ⟨x, rfl, q⟩ := h
    refine ⟨_, pss_one (ps_ret (pe_and (pe_callB call_isi (by rfl) ms (by decide +kernel) (pa_cons (pv 0) (pa_cons (pe_bltn (v := .ty "int") (by rfl) mi (by decide +kernel) rfl) pa_nil)))
      (pe_one (pe_not (pe_callB call_isi (by rfl) ms (by decide +kernel) (pa_cons (pv 0) (pa_cons (pe_bltn (v := .ty "bool") (by rfl) mb (by decide +kernel) rfl) pa_nil))))))), ?_⟩
    exact ⟨.int x, rfl, .int x, .ty "int", .type "int", .type "int", true, rfl, .ty _, .base (.int _), kind_int, _, rfl, iteT ⟨.int x, rfl, .int x, .ty "bool", .type "int", .type "bool", false, rfl, .ty _, .base (.int _), kind_ib, _, rfl, q⟩⟩
theorem ok_lsays {f : Addr} {fd : FuncData} {k : Nat} (F : Fun K "_law_says" "_law_says" sLsays f fd) (mb : mg "bool" = none) (ms : mg "isinstance" = none) : FnOk P w K mg base CX0 (k + 1) f fd ["_law_found", "_law_due"] spLsays := by
  refine F.ok scLsays (fun vs H Q E h => ?_) (fun cdv A outer s H vs Q E hr h => ?_)
  · obtain ⟨_, rfl, _⟩ := h
    rfl
  · obtain ⟨a, rfl, q⟩ := h
    refine ⟨_, pss_one (ps_ret (pe_and (pe_callB call_isi (by rfl) ms (by decide +kernel) (pa_cons (pv 0) (pa_cons (pe_bltn (v := .ty "bool") (by rfl) mb (by decide +kernel) rfl) pa_nil)))
      (pe_one (pe_cmpR op_eq (pv 0) (pv 1) (nomark _))))), ?_⟩
    refine ⟨.bl a, rfl, .bl a, .ty "bool", .type "bool", .type "bool", true, rfl, .ty _, .base (.bl _), kind_bb, _, rfl, iteT ⟨.bl a, rfl, .bl a, rfl, rfl, ?_⟩⟩
    rw [decide_eq_true rfl]
    exact q
theorem ok_lnumbers {f fW : Addr} {fd fdW : FuncData} {k : Nat} (F : Fun K "_law_numbers" "_law_numbers" sLnumbers f fd) (FW : FnOk P w K mg base CX0 k fW fdW ["_law_thing"] spLwhole) (kW : PySem.W.keepIn K (.ref fW) = true) (bW : Binds K fdW ["_law_thing"] []) (gW : mg "_law_whole" = some (.ref fW))
    (mt : mg "tuple" = none) (ms : mg "isinstance" = none) (ml : mg "len" = none) (ma : mg "all" = none) : FnOk P w K mg base CX0 (k + 1) f fd ["_law_thing", "_law_many"] spLnumbers := by
  refine F.ok scLnumbers (fun vs H Q E h => ?_) (fun cdv A outer s H vs Q E hr h => ?_)
  · obtain ⟨_, _, rfl, _⟩ := h
    rfl
  · obtain ⟨t, xs, rfl, ht, hl, q⟩ := h
    refine ⟨_, pss_one (ps_ret (pe_and (pe_callB call_isi (by rfl) ms (by decide +kernel) (pa_cons (pv 0) (pa_cons (pe_bltn (v := .ty "tuple") (by rfl) mt (by decide +kernel) rfl) pa_nil)))
      (pe_and (pe_cmpR op_eq (pe_callB call_len_seq (by rfl) ml PySem.boot_len (pa_cons (pv 0) pa_nil)) (pv 1) (nomark _))
      (pe_one (pe_callB (cr_all rfl) (by rfl) ma (by decide +kernel) (pa_cons
        (pe_lc (own := [("_law_number_here", 2)]) (g := gName 2) (tt := tYes) rfl scLnumbers.nd (pi_tup (pv 0)) (blkOk_by (N := nLnumbers) (sc := defScope sLnumbers) (by decide +kernel))
          (fun _ _ _ _ _ => pg_name (i := 2) scLnumbers.nd rfl (Or.inl rfl)) (fun _ _ _ _ _ => pts_nil)
          (fun _ _ _ _ _ => pe_call FW hr (by rfl) gW kW bW .nil pass0 (pa_cons (pv 2) pa_nil))) pa_nil)))))), ?_⟩
    refine ⟨.ref t, rfl, .ref t, .ty "tuple", .type "tuple", .type "tuple", true, rfl, .ty _, .base (.tup ht), kind_tt, _, rfl, iteT ?_⟩
    refine ⟨.ref t, rfl, t, _, rfl, .inr (.inl (.inl ht)), .int (xs.length : Int), rfl, rfl, _, rfl, ?_⟩
    rw [List.length_map, decide_eq_true rfl]
    refine iteT ⟨.ref t, rfl, t, rfl, ⟨_, .inl (.inl ht)⟩, fun D hD => ?_⟩
    refine lc_by (goes_tup (K := K) (.inl (.inl ht))) hD (by rw [List.length_map]; exact hl) (fun i z _ => z = .bl true) (fun _ _ _ _ _ h => h) (fun i v H3 hi s3 hacc it post hp => ?_) (fun H2 zs s2 eD hzl hz => ?_)
    · obtain ⟨x, _, rfl⟩ := map_int_at it
      exact ⟨rfl, .int x, rfl, x, rfl, hp _ _ (Same.refl _) rfl⟩
    · rw [trues_of hzl hz] at eD
      refine ⟨D, _, rfl, .inl (.inl eD), ?_⟩
      rw [all_true]
      exact q H2 s2
/-! ### added -/
theorem fold_len {n : Nat} : ∀ (l : List (List Int × Int)) (t : List Int), t.length = n → (∀ p ∈ l, p.1.length = n) → (l.foldl (fun t p => CfM.ax p.2 t p.1) t).length = n
  | [], t, h, _ => h
  | p :: l, t, h, hl => by
    rw [List.foldl_cons]
    refine fold_len l _ ?_ fun q hq => hl q (List.mem_cons_of_mem _ hq)
    rw [CfM.ax_len, h, hl p List.mem_cons_self]
    omega
theorem mix_at {A B : List Int} {n j : Nat} (ha : A.length = n) (hb : B.length = n) (hj : j < n) : (A.take j ++ B.drop j)[j]? = B[j]? := by
  rw [List.getElem?_append_right (by rw [List.length_take]; omega), List.length_take, List.getElem?_drop, ha]
  congr 1
  omega
theorem mix_set {A B : List Int} {n j : Nat} {x : Int} (ha : A.length = n) (hb : B.length = n) (hj : j < n) (hx : A[j]? = some x) : (A.take j ++ B.drop j).set j x = A.take (j + 1) ++ B.drop (j + 1) := by
  apply List.ext_getElem? fun i => ?_
  rw [List.getElem?_set]
  have l1 : (A.take j ++ B.drop j).length = n := by rw [List.length_append, List.length_take, List.length_drop]; omega
  by_cases e : j = i
  · subst e
    rw [if_pos rfl, if_pos (by omega), List.getElem?_append_left (by rw [List.length_take]; omega), List.getElem?_take, if_pos (by omega), hx]
  · rw [if_neg e]
    rcases Nat.lt_or_ge i j with z | z
    · rw [List.getElem?_append_left (by rw [List.length_take]; omega), List.getElem?_append_left (by rw [List.length_take]; omega), List.getElem?_take, List.getElem?_take, if_pos z, if_pos (by omega)]
    · rw [List.getElem?_append_right (by rw [List.length_take]; omega), List.getElem?_append_right (by rw [List.length_take]; omega), List.length_take, List.length_take, List.getElem?_drop, List.getElem?_drop]
      congr 1
      omega
def spAdded : Sp := fun vs H Q _ => ∃ (ra wa : Addr) (u : Bool) (R : List (List Int)) (ws : List Int) (wd B : Nat), vs = [.ref ra, .ref wa, .int (wd : Int)] ∧ RowsAt u H ra R ∧ H wa = some (.tup (ws.map V.int)) ∧ ws.length = R.length ∧ R.length ≤ 1000 ∧ wd ≤ 100 ∧ (∀ r ∈ R, r.length = wd + 1) ∧
  (B + 100 ≤ 134217728 ∧ (∀ x ∈ ws, x.natAbs ≤ 2 ^ B) ∧ ∀ r ∈ R, ∀ i, (CfM.g r i).natAbs ≤ 2 ^ 90) ∧ ∀ H' p, Same H H' → H' p = some (.tup ((CfM.totF R ws (List.replicate (wd + 1) 0)).map V.int)) → Q (.ref p) H'
theorem ok_added {f : Addr} {fd : FuncData} {k : Nat} (F : Fun K "added" "added" sAdded f fd) (mz : mg "zip" = none) (me : mg "enumerate" = none) (mt : mg "tuple" = none) : FnOk P w K mg base CX0 (k + 1) f fd ["rows", "weights", "width"] spAdded := by
  refine F.ok scAdded (fun vs H Q E h => ?_) (fun cdv A outer s H vs Q E hr h => ?_)
  · obtain ⟨_, _, _, _, _, _, _, rfl, _⟩ := h
    rfl
  · obtain ⟨ra, wa, u, R, ws, wd, B, rfl, ⟨ts, eR, pR⟩, hW, hlw, hRl, hwd, hr1, ⟨hB, hBw, hBr⟩, q⟩ := h
    refine ⟨_, pss_cons (ps_set (i := 3) scAdded.nd rfl (.inl rfl) (pe_op op_rep (pe_lst (pa_cons pe_int pa_nil)) (pe_op op_add (pv 2) pe_int)))
      (pss_cons (ps_for PassesOwn.never rfl (pi_zipB (by rfl) mz (pa_cons (pv 0) (pa_cons (pv 1) pa_nil))) (pg_tup rfl (pgs_cons (pg_name (i := 4) scAdded.nd rfl (Or.inl rfl)) (pgs_cons (pg_name (i := 5) scAdded.nd rfl (Or.inl rfl)) pgs_nil)))
        (pss_one (ps_for PassesOwn.never rfl (pi_enumB (by rfl) me (pa_cons (pv 4) pa_nil)) (pg_tup rfl (pgs_cons (pg_name (i := 6) scAdded.nd rfl (Or.inl rfl)) (pgs_cons (pg_name (i := 7) scAdded.nd rfl (Or.inl rfl)) pgs_nil)))
          (pss_one (ps_augS (pv 3) (pv 6) get_listN (pe_op op_mulX (pv 5) (pv 7)) ip_add set_list)))))
      (pss_one (ps_ret (pe_callTy call_tuple_of (by rfl) mt (by decide +kernel) (pa_cons (pv 3) pa_nil))))), ?_⟩
    refine ⟨by show 1 ≤ sizeLine; decide, fun l hl => ?_⟩
    refine ⟨.int (wd : Int), rfl, (wd : Int), 1, rfl, rfl, l, (wd : Int) + 1, _, rfl, rfl, upd_same, by omega, by omega, Nat.le_of_lt (small1000 (by show 1 * _ ≤ 1000; omega)), fun p hp => ?_⟩
    have ezero : (List.replicate ((wd : Int) + 1).toNat [V.int 0]).flatten = (List.replicate (wd + 1) (0 : Int)).map V.int := by
      rw [show ((wd : Int) + 1).toNat = wd + 1 by omega]
      generalize wd + 1 = n
      induction n with
      | zero => rfl
      | succ n ih =>
        rw [List.replicate_succ, List.flatten_cons, ih, List.replicate_succ]
        rfl
    rw [ezero]
    have s2 : Same H (upd (upd H l (.lst [V.int 0])) p (.lst ((List.replicate (wd + 1) (0 : Int)).map V.int))) := (same_upd hl).trans (same_upd hp)
    have hp0 : H p = none := none_of (same_upd hl) hp
    have eP : (upd (upd H l (.lst [V.int 0])) p (.lst ((List.replicate (wd + 1) (0 : Int)).map V.int))) p = some (.lst ((List.replicate (wd + 1) (0 : Int)).map V.int)) := upd_same
    generalize upd (upd H l (.lst [V.int 0])) p (.lst ((List.replicate (wd + 1) (0 : Int)).map V.int)) = H2 at *
    have lR := Paired.length pR
    refine ⟨.ref ra, rfl, .ref wa, rfl, false, true, ra, wa, _, _, rfl, .inl (.inl (s2 _ _ eR)), .inl (.inl (s2 _ _ hW)), ?_⟩
    refine for_zipB (fun i σ H' => ∃ z4 z5 z6 z7 : Option V, σ = [some (.ref ra), some (.ref wa), some (.int (wd : Int)), some (.ref p), z4, z5, z6, z7] ∧ Same H H' ∧ H' p = some (.lst ((((R.zip ws).take i).foldl (fun t p => CfM.ax p.2 t p.1) (List.replicate (wd + 1) 0)).map V.int)))
      ⟨_, _, _, _, rfl, s2, eP⟩ (fun i σ H' hP => ?_) (fun i x y T σ H' hx hy hP hT => ?_) (fun σ H' hP => ?_)
    · obtain ⟨_, _, _, _, _, sm, _⟩ := hP
      exact ⟨.inl (.inl (sm _ _ eR)), .inl (.inl (sm _ _ hW))⟩
    · obtain ⟨z4, z5, z6, z7, rfl, sm, eP'⟩ := hP
      rw [List.getElem?_map] at hx
      cases et : ts[i]? with
      | none => rw [et] at hx; cases hx
      | some t =>
        rw [et] at hx
        have hx := (Option.some.inj hx).symm
        subst hx
        obtain ⟨r, er, hrow⟩ := paired_get pR et
        obtain ⟨wt, ewt, rfl⟩ := map_int_at hy
        have hrm := List.mem_of_getElem? er
        have hwm := List.mem_of_getElem? ewt
        have ez : (R.zip ws)[i]? = some (r, wt) := by
          rw [List.getElem?_zip_eq_some]
          exact ⟨er, ewt⟩
        have etk : ((R.zip ws).take (i + 1)).foldl (fun t p => CfM.ax p.2 t p.1) (List.replicate (wd + 1) 0) = CfM.ax wt (((R.zip ws).take i).foldl (fun t p => CfM.ax p.2 t p.1) (List.replicate (wd + 1) 0)) r := by
          rw [List.take_add_one, ez, List.foldl_append]
          rfl
        rw [etk]
        have lt : (((R.zip ws).take i).foldl (fun t p => CfM.ax p.2 t p.1) (List.replicate (wd + 1) 0)).length = wd + 1 := fold_len _ _ (by rw [List.length_replicate]) fun q hq => hr1 _ (List.of_mem_zip (List.mem_of_mem_take hq)).1
        generalize ((R.zip ws).take i).foldl (fun t p => CfM.ax p.2 t p.1) (List.replicate (wd + 1) 0) = t0 at *
        have lr := hr1 r hrm
        have la : (CfM.ax wt t0 r).length = wd + 1 := by rw [CfM.ax_len]; omega
        have nTp : p ≠ T := ne_of_none eP' hT
        have sT : Same H' (upd H' T (.tup [.ref t, .int wt])) := same_upd hT
        have eT : (upd H' T (.tup [.ref t, .int wt])) T = some (.tup [.ref t, .int wt]) := upd_same
        have smT := sm.trans sT
        have eP2 := sT _ _ eP'
        generalize upd H' T (.tup [.ref t, .int wt]) = H5 at *
        refine ⟨T, _, rfl, .inl (.inl eT), rfl, _, _, rfl, _, _, rfl, rfl, ?_⟩
        refine ⟨.ref t, rfl, u, t, _, rfl, row_seq (smT _ _ hrow), ?_⟩
        refine for_enumB (fun j σ H' => ∃ z6 z7 : Option V, σ = [some (.ref ra), some (.ref wa), some (.int (wd : Int)), some (.ref p), some (.ref t), some (.int wt), z6, z7] ∧ Same H H' ∧ H' p = some (.lst (((CfM.ax wt t0 r).take j ++ t0.drop j).map V.int)))
          ⟨_, _, rfl, smT, eP2⟩ (fun j σ H6 hP => ?_) (fun j x T2 σ H6 hx hP hT2 => ?_) (fun σ H6 hP => ?_)
        · obtain ⟨_, _, _, sm6, _⟩ := hP
          exact row_seq (sm6 _ _ hrow)
        · obtain ⟨z6, z7, rfl, sm6, eP6⟩ := hP
          obtain ⟨c, ec, rfl⟩ := map_int_at hx
          have hj : j < wd + 1 := by
            have := (List.getElem?_eq_some_iff.mp ec).1
            omega
          have sT2 : Same H6 (upd H6 T2 (.tup [.int (j : Nat), .int c])) := same_upd hT2
          have eT2 : (upd H6 T2 (.tup [.int (j : Nat), .int c])) T2 = some (.tup [.int (j : Nat), .int c]) := upd_same
          have sm7 := sm6.trans sT2
          have eP7 := sT2 _ _ eP6
          generalize upd H6 T2 (.tup [.int (j : Nat), .int c]) = H7 at *
          refine ⟨T2, _, rfl, .inl (.inl eT2), rfl, _, _, rfl, _, _, rfl, rfl, ?_⟩
          have et0 : t0[j]? = some t0[j] := List.getElem?_eq_getElem (by omega)
          have eold : (((CfM.ax wt t0 r).take j ++ t0.drop j).map V.int)[j]? = some (.int t0[j]) := by
            rw [List.getElem?_map, mix_at la lt hj, et0]
            rfl
          have enew : (CfM.ax wt t0 r)[j]? = some (t0[j] + wt * c) := by
            unfold CfM.ax
            rw [List.getElem?_zipWith, et0, ec]
          have b1 := hBw wt hwm
          have b2 := hBr r hrm j
          rw [g_some ec] at b2
          refine ⟨.ref p, rfl, .int (j : Nat), rfl, p, _, j, .int t0[j], rfl, rfl, eP7, eold, .int wt, rfl, .int c, rfl, wt, c, rfl, rfl, cmul_of b1 b2 (by omega), t0[j], wt * c, rfl, rfl, p, _, (j : Int), j, rfl, rfl, eP7, ixN_nat (by rw [List.length_map, List.length_append, List.length_take, List.length_drop]; omega), ?_⟩
          refine ⟨_, _, rfl, same_own sm7 hp0, ?_⟩
          rw [upd_same, ← mix_set la lt hj enew, List.map_set]
        · obtain ⟨z6, z7, rfl, sm6, eP6⟩ := hP
          rw [List.length_map, lr, List.take_of_length_le (by omega), List.drop_of_length_le (by omega), List.append_nil] at eP6
          exact ⟨_, _, _, _, rfl, sm6, eP6⟩
    · obtain ⟨z4, z5, z6, z7, rfl, sm, eP'⟩ := hP
      rw [List.length_map, List.length_map, lR, hlw, Nat.min_self, List.take_of_length_le (by rw [List.length_zip]; omega)] at eP'
      refine ⟨.ref p, rfl, p, _, rfl, .inl ⟨.inl (.inl eP'), fun l2 hl2 => q _ l2 (sm.trans (same_upd hl2)) upd_same⟩⟩
end
end CfW

namespace CfW
open PySem PySem.Spec PyProof.Rows L2 CfX
abbrev nSpread : List Str := ["paper", "times", "word", "point", "moves", "reads", "values", "move", "often", "a", "b"]
theorem scSpread : FnScope nSpread ["paper", "times"] (defScope sSpread) := ⟨rfl, rfl, rfl, by decide +kernel, rfl, by decide +kernel, by decide +kernel⟩
abbrev nTimes : List Str := ["paper", "values", "word", "point", "moves", "reads", "away", "a", "b", "read"]
theorem scTimes : FnScope nTimes ["paper", "values"] (defScope sTimes) := ⟨rfl, rfl, rfl, by decide +kernel, rfl, by decide +kernel, by decide +kernel⟩
def spShows : Sp := fun vs H Q _ => ∃ (ra p : Addr) (u : Bool) (R : List (List Int)) (wd : Nat), vs = [.ref ra, .ref p, .int (wd : Int)] ∧ RowsAt u H ra R ∧ R.length ≤ 1000 ∧ wd ≤ 8 ∧ CfM.Rows wd R ∧ (∀ r ∈ R, CfM.RowB r) ∧
  ((∃ pt mv rd, BaseAt H p pt mv rd ∧ ∀ H', Same H H' → Q (.bl false) H') ∨ ∃ ws d, RestAt H p ws d ∧ CfM.RestOk wd R ws d ∧ d ≤ 2 ^ CfM.DB ∧ ∀ H', Same H H' → Q (.bl true) H')
theorem row_all {r : List Int} (B : CfM.RowB r) (i : Nat) : (CfM.g r i).natAbs ≤ 2 ^ 90 := by
  cases i with
  | zero => exact B.const
  | succ i =>
    rw [← CfM.tail_g]
    exact Nat.le_trans (B.coef i) (Nat.pow_le_pow_right (by decide) (by decide))
theorem big_ok4 : CfM.DB + 100 ≤ 134217728 := by decide +kernel
theorem fmod_dvd {a d : Int} (hd : 0 < d) : a.fmod d = 0 ↔ d ∣ a := by
  rw [Int.fmod_eq_emod_of_nonneg _ (by omega)]
  exact ⟨Int.dvd_of_emod_eq_zero, Int.emod_eq_zero_of_dvd⟩
section
variable {P : Program} {w : World} {K : PySem.W.Frag} {mg : Str → Option Value} {base : Heap}
theorem ok_shows {f fW fA : Addr} {fd fdW fdA : FuncData} {k : Nat} (F : Fun K "shows_rest" "shows_rest" sShows f fd) (IW : IsW K fW fdW) (FW : FnOk P w K mg base CX0 k fW fdW ["thing", "least", "most"] spWhole) (gW : mg "is_whole" = some (.ref fW))
    (FA' : Fun K "added" "added" sAdded fA fdA) (FA : FnOk P w K mg base CX0 k fA fdA ["rows", "weights", "width"] spAdded) (gA : mg "added" = some (.ref fA)) (mt : mg "tuple" = none) (ms : mg "isinstance" = none) (ml : mg "len" = none) (ma : mg "all" = none) : FnOk P w K mg base CX0 (k + 1) f fd ["rows", "thing", "width"] spShows := by
  refine F.ok scShows (fun vs H Q E h => ?_) (fun cdv A outer s H vs Q E hr h => ?_)
  · obtain ⟨_, _, _, _, _, rfl, _⟩ := h
    rfl
  · obtain ⟨ra, p, u, R, wd, rfl, hRA, hRl, h8, hR, hRB, hcase⟩ := h
    obtain ⟨ds, rds, bds⟩ := isw_b0 IW
    obtain ⟨mv1, kb1⟩ := isw_b1 IW
    refine ⟨_, pss_cons (ps_if (PW.pt (pw_or (pt_not (pt_val (pe_callB call_isi (by rfl) ms (by decide +kernel) (pa_cons (pv 1) (pa_cons (pe_bltn (v := .ty "tuple") (by rfl) mt (by decide +kernel) rfl) pa_nil)))))
          (pw_or (pt_cmpR op_ne (pe_callB call_len_seq (by rfl) ml PySem.boot_len (pa_cons (pv 1) pa_nil)) pe_int (nomark _)) (pw_or1 (pt_cmpR op_ne (pe_ix ix_tup (pv 1) pe_int (fun _ _ => rfl)) pe_str (nomark _))))))
        (pss_one (ps_ret pe_bl)) pss_nil)
      (pss_cons (ps_asg (pv 1) (pg_tup rfl (pgs_cons (pg_name (i := 3) scShows.nd rfl (Or.inl rfl)) (pgs_cons (pg_name (i := 4) scShows.nd rfl (Or.inl rfl)) (pgs_cons (pg_name (i := 5) scShows.nd rfl (Or.inr rfl)) pgs_nil)))))
      (pss_cons (ps_if (PW.pt (pw_or (pt_not (pt_val (pe_callB call_isi (by rfl) ms (by decide +kernel) (pa_cons (pv 4) (pa_cons (pe_bltn (v := .ty "tuple") (by rfl) mt (by decide +kernel) rfl) pa_nil)))))
          (pw_or (pt_cmpR op_ne (pe_callB call_len_seq (by rfl) ml PySem.boot_len (pa_cons (pv 4) pa_nil)) (pe_callB call_len_seq (by rfl) ml PySem.boot_len (pa_cons (pv 0) pa_nil)) (nomark _))
            (pw_or1 (pt_not (pt_val (pe_callN FW hr (by rfl) gW IW.kp kb1 pass0 (pa_cons (pv 5) pa_nil) (pk_cons pe_int pk_nil))))))))
        (pss_one (ps_ret pe_bl)) pss_nil)
      (pss_cons (ps_if (pt_not (pt_val (pe_callB (cr_all rfl) (by rfl) ma (by decide +kernel) (pa_cons
          (pe_lc (own := [("weight", 8)]) (g := gName 8) (tt := tYes) rfl scShows.nd (pi_tup (pv 4)) (blkOk_by (N := nShows) (sc := defScope sShows) (by decide +kernel))
            (fun _ _ _ _ _ => pg_name (i := 8) scShows.nd rfl (Or.inl rfl)) (fun _ _ _ _ _ => pts_nil)
            (fun _ _ _ _ _ => pe_call FW hr (by rfl) gW IW.kp bds rds pass0 (pa_cons (pv 8) pa_nil))) pa_nil))))
        (pss_one (ps_ret pe_bl)) pss_nil)
      (pss_cons (ps_asg (pe_callN FA hr (by rfl) gA FA'.kp (kb_added FA') pass0 (pa_cons (pv 0) (pa_cons (pv 4) pa_nil)) (pk_cons (pv 2) pk_nil)) (pg_star rfl (pgs_cons (pg_name (i := 6) scShows.nd rfl (Or.inl rfl)) (pgs_cons (pg_name (i := 7) scShows.nd rfl (Or.inl rfl)) pgs_nil))))
      (pss_one (ps_ret (pe_and (pe_cmpR op_ne (pe_op op_modN (pv 6) (pv 5)) pe_int (nomark _)) (pe_one (pe_callB (cr_all rfl) (by rfl) ma (by decide +kernel) (pa_cons
          (pe_lc (own := [("coef", 9)]) (g := gName 9) (tt := tYes) rfl scShows.nd (pi_list (pv 7)) (blkOk_by (N := nShows) (sc := defScope sShows) (by decide +kernel))
            (fun _ _ _ _ _ => pg_name (i := 9) scShows.nd rfl (Or.inl rfl)) (fun _ _ _ _ _ => pts_nil)
            (fun _ _ _ _ _ => pe_cmpR op_eq (pe_op op_modN (pv 9) (pv 5)) pe_int (nomark _))) pa_nil)))))))))), ?_⟩
    obtain ⟨tsR, eR, pR⟩ := hRA
    have lR := Paired.length pR
    rcases hcase with ⟨pt, mv, rd, ⟨a, b, c, ep, _⟩, q⟩ | ⟨ws, d, ⟨t, ep, et⟩, ok, hdb, q⟩
    · refine ⟨.ref p, rfl, .ref p, .ty "tuple", .type "tuple", .type "tuple", true, rfl, .ty _, .base (.tup ep), kind_tt, _, rfl, ?_⟩
      refine iteF ⟨.ref p, rfl, p, _, rfl, .inr (.inl (.inl ep)), rfl, _, rfl, ?_⟩
      exact iteT (iteT (q H (Same.refl _)))
    · have hd2 := ok.two
      have lw := ok.len
      refine ⟨.ref p, rfl, .ref p, .ty "tuple", .type "tuple", .type "tuple", true, rfl, .ty _, .base (.tup ep), kind_tt, _, rfl, ?_⟩
      refine iteF ⟨.ref p, rfl, p, _, rfl, .inr (.inl (.inl ep)), rfl, _, rfl, ?_⟩
      refine iteF ⟨.ref p, rfl, p, _, 0, .str "rest", rfl, rfl, .inl (.inl ep), atI_nat (j := 0) rfl, rfl, _, rfl, ?_⟩
      rw [decide_eq_true rfl]
      refine iteF ?_
      refine ⟨.ref p, rfl, p, _, rfl, .inl (.inl ep), rfl, _, _, rfl, _, _, rfl, _, _, rfl, rfl, ?_⟩
      refine ⟨.ref t, rfl, .ref t, .ty "tuple", .type "tuple", .type "tuple", true, rfl, .ty _, .base (.tup et), kind_tt, _, rfl, ?_⟩
      refine iteF ⟨.ref t, rfl, t, _, rfl, .inr (.inl (.inl et)), .ref ra, rfl, ra, _, rfl, .inl (.inl (.inl eR)), rfl, _, rfl, ?_⟩
      rw [decide_eq_true (show V.int ((ws.map V.int).length : Int) = V.int ((tsR.map V.ref).length : Int) by rw [List.length_map, List.length_map, lw, lR])]
      refine iteF ⟨.int d, rfl, rfl, rfl, d, .int 2, rfl, .inr ⟨2, rfl, hd2⟩, _, rfl, iteF ?_⟩
      refine ⟨.ref t, rfl, t, rfl, ⟨_, .inl (.inl et)⟩, fun D hD => ?_⟩
      refine lc_by (goes_tup (K := K) (.inl (.inl et))) hD (by rw [List.length_map]; omega) (fun i z _ => z = .bl true) (fun _ _ _ _ _ h => h) (fun i v H3 hi s3 hacc it post hp => ?_) (fun H2 zs s2 eD hzl hz => ?_)
      · obtain ⟨x, _, rfl⟩ := map_int_at it
        exact ⟨rfl, .int x, rfl, x, .non, rfl, .inl rfl, hp _ _ (Same.refl _) rfl⟩
      rw [trues_of hzl hz] at eD
      refine ⟨D, _, rfl, .inl (.inl eD), _, rfl, ?_⟩
      rw [all_true]
      refine iteF ?_
      refine ⟨.ref ra, rfl, .ref t, rfl, .int (wd : Int), rfl, rfl, rfl, ?_⟩
      have hwB : ∀ x ∈ ws, x.natAbs ≤ 2 ^ CfM.DB := fun x hx => by
        obtain ⟨a1, a2⟩ := ok.low x hx
        have e := CfM.pow_cast CfM.DB
        generalize 2 ^ CfM.DB = Z at *
        generalize (2 : Int) ^ CfM.DB = Z2 at *
        omega
      refine ⟨ra, t, u, R, ws, wd, CfM.DB, rfl, ⟨tsR, s2 _ _ eR, Paired.mapP pR fun _ _ z => s2 _ _ z⟩, s2 _ _ et, lw, hRl, by omega, hR.each, ⟨big_ok4, hwB, fun r hr i => row_all (hRB r hr) i⟩, fun H3 p2 s3 ep2 => ?_⟩
      obtain ⟨ltot, gtot⟩ := CfM.tot_g (n := wd + 1) R ws (List.replicate (wd + 1) 0) (by rw [List.length_replicate]) hR.each lw
      have gz : ∀ j, CfM.g (List.replicate (wd + 1) (0 : Int)) j = 0 := fun j => by
        unfold CfM.g
        rw [List.getD_eq_getElem?_getD, List.getElem?_replicate]
        split <;> rfl
      cases etot : CfM.totF R ws (List.replicate (wd + 1) 0) with
      | nil => rw [etot] at ltot; simp at ltot
      | cons c0 cs =>
        rw [etot] at ep2 ltot gtot
        have lcs : cs.length = wd := by simpa using ltot
        have g0 : c0 = CfM.total R ws 0 := by
          have := gtot 0
          rw [gz] at this
          have e : CfM.g (c0 :: cs) 0 = c0 := rfl
          omega
        have gs : ∀ j, CfM.g cs j = CfM.total R ws (j + 1) := fun j => by
          have := gtot (j + 1)
          rw [gz] at this
          have e : CfM.g (c0 :: cs) (j + 1) = CfM.g cs j := rfl
          omega
        rw [List.map_cons] at ep2
        refine ⟨true, p2, _, _, rfl, .inl (.inl ep2), by rw [List.length_map]; omega, fun co hco => ⟨_, _, rfl, _, _, rfl, rfl, ?_⟩⟩
        have sco : Same H3 (upd H3 co (.lst (cs.map V.int))) := same_upd hco
        have eco : (upd H3 co (.lst (cs.map V.int))) co = some (.lst (cs.map V.int)) := upd_same
        generalize upd H3 co (.lst (cs.map V.int)) = H4 at *
        refine ⟨.int c0, rfl, .int d, rfl, c0, d, rfl, rfl, by omega, rfl, _, rfl, ?_⟩
        rw [decide_eq_false (show ¬ V.int (c0.fmod d) = V.int 0 from fun z => ok.const (by rw [← g0]; exact (fmod_dvd (by omega)).mp (V.int.inj z)))]
        refine iteT ?_
        refine ⟨.ref co, rfl, co, rfl, ⟨_, .inl (.inl eco)⟩, fun D2 hD2 => ?_⟩
        refine lc_by (goes_list (K := K) (.inl (.inl eco))) hD2 (by rw [List.length_map]; omega) (fun i z _ => z = .bl true) (fun _ _ _ _ _ h => h) (fun i v H5 hi s5 hacc it post hp => ?_) (fun H5 zs s5 eD2 hzl hz => ?_)
        · obtain ⟨x, ex, rfl⟩ := map_int_at it
          have hi2 : i < wd := by rw [List.length_map] at hi; omega
          have hz : x.fmod d = 0 := (fmod_dvd (by omega)).mpr (by
            have := gs i
            rw [g_some ex] at this
            rw [this]
            exact ok.coef (i + 1) (by omega) (by omega))
          have ee : (decide (V.int (x.fmod d) = V.int 0)) = true := decide_eq_true (by rw [hz])
          have z := hp (.bl (decide (V.int (x.fmod d) = V.int 0))) H5 (Same.refl _) (by rw [ee])
          exact ⟨rfl, .int x, rfl, .int d, rfl, x, d, rfl, rfl, by omega, rfl, z⟩
        · rw [trues_of hzl hz] at eD2
          refine ⟨D2, _, rfl, .inl (.inl eD2), ?_⟩
          rw [all_true]
          exact q H5 (((s2.trans s3).trans sco).trans s5)
end
end CfW

namespace CfW
open PySem PySem.Spec PyProof.Rows L2 CfX
def spSpread : Sp := fun vs H Q _ => ∃ (p ta : Addr) (pt : List Int) (mv rd : List (List Int)) (ts : List Int) (wd : Nat), vs = [.ref p, .ref ta] ∧ BaseAt H p pt mv rd ∧ H ta = some (.lst (ts.map V.int)) ∧ CfM.BaseB pt mv rd ∧ pt.length = wd ∧ wd ≤ 8 ∧ (∀ m ∈ mv, m.length = wd) ∧ ts.length = mv.length ∧
  (∀ i, (CfM.g ts i).natAbs ≤ 2 ^ (CfM.jj 8 + CfM.PB + 5)) ∧ ∀ H' p2, Same H H' → H' p2 = some (.tup ((CfM.spreadM pt mv ts).map V.int)) → Q (.ref p2) H'
def spTimes : Sp := fun vs H Q _ => ∃ (p xa : Addr) (pt : List Int) (mv rd : List (List Int)) (x : List Int) (wd : Nat), vs = [.ref p, .ref xa] ∧ BaseAt H p pt mv rd ∧ H xa = some (.lst (x.map V.int)) ∧ CfM.BaseB pt mv rd ∧ pt.length = wd ∧ x.length = wd ∧ wd ≤ 8 ∧ rd.length ≤ 8 ∧ (∀ m ∈ rd, m.length = wd) ∧
  (∀ i, (CfM.g x i).natAbs ≤ 2 ^ 40) ∧ ∀ H' l, Same H H' → H' l = some (.lst ((CfM.timesM pt rd x).map V.int)) → Q (.ref l) H'
theorem big_ok5 : CfM.jj 8 + CfM.PB + 5 + CfM.mm 8 + 2 ≤ 134217728 := by decide +kernel
theorem big_ok6 : CfM.jj 8 + (CfM.PB + 2) + 2 ≤ 134217728 := by decide +kernel
theorem pb40 : 40 ≤ CfM.PB := by decide +kernel
theorem away_eq (x pt : List Int) : List.zipWith (fun a b => a - b) x pt = CfM.ax (-1) x pt := by
  unfold CfM.ax
  congr 1
  funext a b
  omega
theorem away_bd {x pt : List Int} (hl : x.length = pt.length) (hx : ∀ i, (CfM.g x i).natAbs ≤ 2 ^ 40) (hp : ∀ i, (CfM.g pt i).natAbs ≤ 2 ^ CfM.PB) (i : Nat) : (CfM.g (CfM.ax (-1) x pt) i).natAbs ≤ 2 ^ (CfM.PB + 2) := by
  rw [CfM.ax_g hl]
  have a := hx i
  have b := hp i
  have c : 2 ^ 40 ≤ 2 ^ CfM.PB := CfM.p2 pb40
  have d : 2 ^ (CfM.PB + 2) = 4 * 2 ^ CfM.PB := by rw [Nat.pow_add, Nat.mul_comm]
  generalize 2 ^ CfM.PB = Z at *
  generalize 2 ^ (CfM.PB + 2) = Y at *
  omega
theorem pow_split (J P : Nat) : 2 ^ (J + P + 5) = 8 * (2 ^ J * 2 ^ (P + 2)) := by
  rw [show J + P + 5 = 3 + (J + (P + 2)) by omega, Nat.pow_add 2 3, Nat.pow_add 2 J]
theorem times_bd {wd : Nat} {x pt : List Int} {rd : List (List Int)} (h8 : wd ≤ 8) (hl : x.length = pt.length) (hp0 : pt.length = wd) (hx : ∀ i, (CfM.g x i).natAbs ≤ 2 ^ 40) (hp : ∀ i, (CfM.g pt i).natAbs ≤ 2 ^ CfM.PB) (hr : ∀ m ∈ rd, ∀ i, (CfM.g m i).natAbs ≤ 2 ^ CfM.jj 8) (hrl : ∀ m ∈ rd, m.length = wd) (i : Nat) :
    (CfM.g (CfM.timesM pt rd x) i).natAbs ≤ 2 ^ (CfM.jj 8 + CfM.PB + 5) := by
  unfold CfM.timesM CfM.g
  rw [List.getD_eq_getElem?_getD, List.getElem?_map]
  cases e : rd[i]? with
  | none => exact Nat.zero_le _
  | some m =>
    have hm := List.mem_of_getElem? e
    have z := CfM.dot_bd (w := wd) (.inl (hrl m hm)) h8 (hr m hm) (away_bd hl hx hp)
    show (CfM.dot m (CfM.ax (-1) x pt)).natAbs ≤ _
    rw [pow_split]
    exact z
theorem tup_at {H : Hp} {ts : List Addr} {M : List (List Int)} (p : Paired (fun t (v : List Int) => H t = some (.tup (v.map V.int))) ts M) {i : Nat} {v : V} (h : (ts.map V.ref)[i]? = some v) : ∃ t m, v = .ref t ∧ M[i]? = some m ∧ H t = some (.tup (m.map V.int)) := by
  rw [List.getElem?_map] at h
  cases et : ts[i]? with
  | none => rw [et] at h; cases h
  | some t =>
    rw [et] at h
    obtain ⟨m, em, hm⟩ := paired_get p et
    exact ⟨t, m, (Option.some.inj h).symm, em, hm⟩
section
variable {P : Program} {w : World} {K : PySem.W.Frag} {mg : Str → Option Value} {base : Heap}
theorem ok_spread {f : Addr} {fd : FuncData} {k : Nat} (F : Fun K "spread" "spread" sSpread f fd) (mz : mg "zip" = none) (ml : mg "list" = none) (mt : mg "tuple" = none) : FnOk P w K mg base CX0 (k + 1) f fd ["paper", "times"] spSpread := by
  refine F.ok scSpread (fun vs H Q E h => ?_) (fun cdv A outer s H vs Q E hr h => ?_)
  · obtain ⟨_, _, _, _, _, _, _, rfl, _⟩ := h
    rfl
  · obtain ⟨p, ta, pt, mv, rd, ts, wd, rfl, ⟨ap, am, ar, ep, ept, ⟨tm, em, pm⟩, _⟩, hT, BB, hpl, h8, hml, htl, htb, q⟩ := h
    refine ⟨_, pss_cons (ps_if (pt_cmpR op_ne (pe_ix ix_tup (pv 0) pe_int (fun _ _ => rfl)) pe_str (nomark _)) (pss_one (ps_never)) pss_nil)
      (pss_cons (ps_asg (pv 0) (pg_tup rfl (pgs_cons (pg_name (i := 2) scSpread.nd rfl (Or.inl rfl)) (pgs_cons (pg_name (i := 3) scSpread.nd rfl (Or.inl rfl)) (pgs_cons (pg_name (i := 4) scSpread.nd rfl (Or.inl rfl)) (pgs_cons (pg_name (i := 5) scSpread.nd rfl (Or.inl rfl)) pgs_nil))))))
      (pss_cons (ps_set (i := 6) scSpread.nd rfl (.inl rfl) (pe_callTy call_list_of (by rfl) ml (by decide +kernel) (pa_cons (pv 3) pa_nil)))
      (pss_cons (ps_for PassesOwn.never rfl (pi_zipB (by rfl) mz (pa_cons (pv 4) (pa_cons (pv 1) pa_nil))) (pg_tup rfl (pgs_cons (pg_name (i := 7) scSpread.nd rfl (Or.inl rfl)) (pgs_cons (pg_name (i := 8) scSpread.nd rfl (Or.inr rfl)) pgs_nil)))
        (pss_one (ps_setLc (i := 6) (own := [("a", 9), ("b", 10)]) (g := gTup K 2 (gCons (gName 9) (gCons (gName 10) gNil))) (tt := tYes) rfl scSpread.nd rfl rfl (sw_true rfl rfl rfl (by decide +kernel)) (pi_zipB (by rfl) mz (pa_cons (pv 6) (pa_cons (pv 7) pa_nil)))
          (blkOk_by (N := nSpread) (sc := defScope sSpread) (by decide +kernel))
          (fun _ _ _ _ _ => pg_tup rfl (pgs_cons (pg_name (i := 9) scSpread.nd rfl (Or.inl rfl)) (pgs_cons (pg_name (i := 10) scSpread.nd rfl (Or.inl rfl)) pgs_nil))) (fun _ _ _ _ _ => pts_nil)
          (fun _ _ _ _ _ => pe_op op_add (pv 9) (pe_op op_mulX (pv 8) (pv 10))))))
      (pss_one (ps_ret (pe_callTy call_tuple_of (by rfl) mt (by decide +kernel) (pa_cons (pv 6) pa_nil))))))), ?_⟩
    refine ⟨.ref p, rfl, p, _, 0, .str "base", rfl, rfl, .inl (.inl ep), atI_nat (j := 0) rfl, rfl, _, rfl, ?_⟩
    rw [decide_eq_true rfl]
    refine iteF ?_
    refine ⟨.ref p, rfl, p, _, rfl, .inl (.inl ep), rfl, _, _, rfl, _, _, rfl, _, _, rfl, _, _, rfl, rfl, ?_⟩
    refine ⟨.ref ap, rfl, ap, _, rfl, .inr (.inl (.inl ept)), fun l hl => ?_⟩
    have s1 : Same H (upd H l (.lst (pt.map V.int))) := same_upd hl
    have el : (upd H l (.lst (pt.map V.int))) l = some (.lst (pt.map V.int)) := upd_same
    generalize upd H l (.lst (pt.map V.int)) = H1 at *
    refine ⟨.ref am, rfl, .ref ta, rfl, true, false, am, ta, _, _, rfl, .inl (.inl (s1 _ _ em)), .inl (.inl (s1 _ _ hT)), ?_⟩
    have lm := Paired.length pm
    refine for_zipB (fun i σ H' => ∃ (D : Addr) (z2 z5 z7 z8 z9 z10 : Option V), σ = [some (.ref p), some (.ref ta), z2, some (.ref ap), some (.ref am), z5, some (.ref D), z7, z8, z9, z10] ∧ Same H H' ∧ H' D = some (.lst ((((mv.zip ts).take i).foldl (fun v p => CfM.ax p.2 v p.1) pt).map V.int)))
      ⟨l, _, _, _, _, _, _, rfl, s1, el⟩ (fun i σ H' hP => ?_) (fun i x y T σ H' hx hy hP hT2 => ?_) (fun σ H' hP => ?_)
    · obtain ⟨_, _, _, _, _, _, _, _, sm, _⟩ := hP
      exact ⟨.inl (.inl (sm _ _ em)), .inl (.inl (sm _ _ hT))⟩
    · obtain ⟨D, z2, z5, z7, z8, z9, z10, rfl, sm, eD⟩ := hP
      obtain ⟨t, m, rfl, emm, em2⟩ := tup_at pm hx
      obtain ⟨wt, ewt, rfl⟩ := map_int_at hy
      have hmm := List.mem_of_getElem? emm
      have ez : (mv.zip ts)[i]? = some (m, wt) := by
        rw [List.getElem?_zip_eq_some]
        exact ⟨emm, ewt⟩
      have etk : ((mv.zip ts).take (i + 1)).foldl (fun v p => CfM.ax p.2 v p.1) pt = CfM.ax wt (((mv.zip ts).take i).foldl (fun v p => CfM.ax p.2 v p.1) pt) m := by
        rw [List.take_add_one, ez, List.foldl_append]
        rfl
      rw [etk]
      have lt : (((mv.zip ts).take i).foldl (fun v p => CfM.ax p.2 v p.1) pt).length = wd := fold_len _ _ hpl fun q hq => hml _ (List.of_mem_zip (List.mem_of_mem_take hq)).1
      generalize ((mv.zip ts).take i).foldl (fun v p => CfM.ax p.2 v p.1) pt = t0 at *
      have lmm := hml m hmm
      have sT : Same H' (upd H' T (.tup [.ref t, .int wt])) := same_upd hT2
      have eT : (upd H' T (.tup [.ref t, .int wt])) T = some (.tup [.ref t, .int wt]) := upd_same
      have smT := sm.trans sT
      have eD2 := sT _ _ eD
      generalize upd H' T (.tup [.ref t, .int wt]) = H5 at *
      refine ⟨T, _, rfl, .inl (.inl eT), rfl, _, _, rfl, _, _, rfl, rfl, ?_⟩
      refine ⟨.ref D, rfl, .ref t, rfl, false, true, D, t, _, _, rfl, .inl (.inl eD2), .inl (.inl (smT _ _ em2)), fun Dn hDn => ?_⟩
      refine lc_zipI (K := K) (t := false) (u := true) (fun x y => x + wt * y) (.inl (.inl eD2)) (.inl (.inl (smT _ _ em2))) (by omega) hDn (fun _ _ => rfl) (fun n x y H6 post f1 f2 s6 hpost => ?_) (fun H6 s6 e6 => ?_)
      · have b1 := htb i
        rw [g_some ewt] at b1
        have b2 := BB.moves m hmm n
        rw [g_some f2] at b2
        exact ⟨.int x, rfl, .int wt, rfl, .int y, rfl, wt, y, rfl, rfl, cmul_of b1 b2 big_ok5, x, _, rfl, rfl, hpost⟩
      · exact ⟨Dn, _, _, _, _, _, _, rfl, smT.trans s6, e6⟩
    · obtain ⟨D, z2, z5, z7, z8, z9, z10, rfl, sm, eD⟩ := hP
      rw [List.length_map, List.length_map, lm, htl, Nat.min_self, List.take_of_length_le (by rw [List.length_zip]; omega)] at eD
      exact ⟨.ref D, rfl, D, _, rfl, .inl ⟨.inl (.inl eD), fun l2 hl2 => q _ l2 (sm.trans (same_upd hl2)) upd_same⟩⟩
theorem ok_times {f fP : Addr} {fd fdP : FuncData} {k : Nat} (F : Fun K "times_of" "times_of" sTimes f fd) (FP : FnOk P w K mg base CX0 k fP fdP ["one", "other"] (spDot K)) (kP : PySem.W.keepIn K (.ref fP) = true) (bP : Binds K fdP ["one", "other"] []) (gP : mg "product" = some (.ref fP)) (mz : mg "zip" = none) :
    FnOk P w K mg base CX0 (k + 1) f fd ["paper", "values"] spTimes := by
  refine F.ok scTimes (fun vs H Q E h => ?_) (fun cdv A outer s H vs Q E hr h => ?_)
  · obtain ⟨_, _, _, _, _, _, _, rfl, _⟩ := h
    rfl
  · obtain ⟨p, xa, pt, mv, rd, x, wd, rfl, ⟨ap, am, ar, ep, ept, _, ⟨tr, er, pr⟩⟩, hX, BB, hpl, hxl, h8, hr8, hrl, hxb, q⟩ := h
    refine ⟨_, pss_cons (ps_if (pt_cmpR op_ne (pe_ix ix_tup (pv 0) pe_int (fun _ _ => rfl)) pe_str (nomark _)) (pss_one (ps_never)) pss_nil)
      (pss_cons (ps_asg (pv 0) (pg_tup rfl (pgs_cons (pg_name (i := 2) scTimes.nd rfl (Or.inl rfl)) (pgs_cons (pg_name (i := 3) scTimes.nd rfl (Or.inl rfl)) (pgs_cons (pg_name (i := 4) scTimes.nd rfl (Or.inl rfl)) (pgs_cons (pg_name (i := 5) scTimes.nd rfl (Or.inl rfl)) pgs_nil))))))
      (pss_cons (ps_set (i := 6) scTimes.nd rfl (.inr rfl) (pe_lc (own := [("a", 7), ("b", 8)]) (g := gTup K 2 (gCons (gName 7) (gCons (gName 8) gNil))) (tt := tYes) rfl scTimes.nd (pi_zipB (by rfl) mz (pa_cons (pv 1) (pa_cons (pv 3) pa_nil)))
          (blkOk_by (N := nTimes) (sc := defScope sTimes) (by decide +kernel))
          (fun _ _ _ _ _ => pg_tup rfl (pgs_cons (pg_name (i := 7) scTimes.nd rfl (Or.inl rfl)) (pgs_cons (pg_name (i := 8) scTimes.nd rfl (Or.inl rfl)) pgs_nil))) (fun _ _ _ _ _ => pts_nil)
          (fun _ _ _ _ _ => pe_op op_sub (pv 7) (pv 8))))
      (pss_one (ps_ret (pe_lc (own := [("read", 9)]) (g := gName 9) (tt := tYes) rfl scTimes.nd (pi_tup (pv 5)) (blkOk_by (N := nTimes) (sc := defScope sTimes) (by decide +kernel))
          (fun _ _ _ _ _ => pg_name (i := 9) scTimes.nd rfl (Or.inl rfl)) (fun _ _ _ _ _ => pts_nil)
          (fun _ _ _ _ _ => pe_call FP hr (by rfl) gP kP bP .nil pass0 (pa_cons (pv 9) (pa_cons (pv 6) pa_nil)))))))), ?_⟩
    refine ⟨.ref p, rfl, p, _, 0, .str "base", rfl, rfl, .inl (.inl ep), atI_nat (j := 0) rfl, rfl, _, rfl, ?_⟩
    rw [decide_eq_true rfl]
    refine iteF ?_
    refine ⟨.ref p, rfl, p, _, rfl, .inl (.inl ep), rfl, _, _, rfl, _, _, rfl, _, _, rfl, _, _, rfl, rfl, ?_⟩
    refine ⟨.ref xa, rfl, .ref ap, rfl, false, true, xa, ap, _, _, rfl, .inl (.inl hX), .inl (.inl ept), fun D hD => ?_⟩
    refine lc_zipI (K := K) (t := false) (u := true) (fun a b => a - b) (.inl (.inl hX)) (.inl (.inl ept)) (by omega) hD (fun _ _ => rfl) (fun n a b H3 post e1 e2 s hp => ⟨.int a, rfl, .int b, rfl, a, b, rfl, rfl, hp⟩) (fun H2 s2 eD => ?_)
    rw [away_eq] at eD
    have lr := Paired.length pr
    refine ⟨.ref ar, rfl, ar, rfl, ⟨_, .inl (.inl (s2 _ _ er))⟩, fun L hL => ?_⟩
    refine lc_by (goes_tup (K := K) (.inl (.inl (s2 _ _ er)))) hL (by rw [List.length_map]; omega) (fun i z _ => ∃ m, rd[i]? = some m ∧ z = .int (CfM.dot m (CfM.ax (-1) x pt))) (fun _ _ _ _ _ h => h) (fun i v H3 hi s3 hacc it post hp => ?_) (fun H3 zs s3 eL hzl hz => ?_)
    · obtain ⟨t, m, rfl, emm, em2⟩ := tup_at pr it
      have hmm := List.mem_of_getElem? emm
      refine ⟨rfl, .ref t, rfl, .ref D, rfl, true, false, t, D, m, _, rfl, .inl (.inl (s3 _ _ (s2 _ _ em2))), .inl (.inl (s3 _ _ eD)), by rw [hrl m hmm]; omega, fun n a b ea eb => ?_, fun H5 s5 => hp _ _ s5 ⟨m, emm, rfl⟩⟩
      have b1 := BB.reads m hmm n
      have b2 := away_bd (by omega) hxb BB.point n
      rw [g_some ea] at b1
      rw [g_some eb] at b2
      exact cmul_of b1 b2 big_ok6
    · refine q H3 L (s2.trans s3) ?_
      rw [eL]
      congr 2
      unfold CfM.timesM
      apply List.ext_getElem? fun i => ?_
      rw [List.getElem?_map, List.getElem?_map]
      cases e : zs[i]? with
      | none =>
        have := List.getElem?_eq_none_iff.mp e
        rw [hzl, List.length_map] at this
        rw [List.getElem?_eq_none (show rd.length ≤ i by omega)]
        rfl
      | some z =>
        obtain ⟨m, em, rfl⟩ := hz i z e
        rw [em]
        rfl
end
end CfW

namespace CfW
open PySem PySem.Spec PyProof.Rows L2 CfX
/-! ### data that are equal to themselves -/
structure Nice (n : Nat) (d : PyData) : Prop where
  lay : d.canLay0 = true
  deep : d.depth ≤ n
  same : PyData.eqv d d = true
structure NiceAll (n : Nat) (ds : List PyData) : Prop where
  lay : PyData.canLayAll0 ds = true
  deep : PyData.depthAll ds ≤ n
  same : PyData.eqvAll ds ds = true
theorem nice_nil {n : Nat} : NiceAll n [] := ⟨rfl, Nat.zero_le _, rfl⟩
theorem nice_cons {n : Nat} {d : PyData} {ds : List PyData} (h : Nice n d) (t : NiceAll n ds) : NiceAll n (d :: ds) :=
  ⟨by simp [PyData.canLayAll0, h.lay, t.lay], by simp only [PyData.depthAll]; have := h.deep; have := t.deep; omega, by simp [PyData.eqvAll, h.same, t.same]⟩
theorem nice_int {n : Nat} (i : Int) : Nice n (.int i) := ⟨by simp [PyData.canLay0], by simp [PyData.depth], by simp [PyData.eqv]⟩
theorem nice_str {n : Nat} (x : Str) (h : PyData.strOk x = true) : Nice n (.str x) := ⟨by simp [PyData.canLay0, h], by simp [PyData.depth], by simp [PyData.eqv]⟩
theorem nice_list {n : Nat} {ds : List PyData} (h : NiceAll n ds) : Nice (n + 1) (.list ds) := ⟨by simp only [PyData.canLay0]; exact h.lay, by simp only [PyData.depth]; have := h.deep; omega, by rw [PyData.eqv]; exact h.same⟩
theorem nice_tup {n : Nat} {ds : List PyData} (h : NiceAll n ds) : Nice (n + 1) (.tuple ds) := ⟨by simp only [PyData.canLay0]; exact h.lay, by simp only [PyData.depth]; have := h.deep; omega, by rw [PyData.eqv]; exact h.same⟩
theorem nice_map {α : Type} {n : Nat} (f : α → PyData) (h : ∀ a, Nice n (f a)) : ∀ l : List α, NiceAll n (l.map f)
  | [] => nice_nil
  | a :: l => nice_cons (h a) (nice_map f h l)
theorem Nice.up {n m : Nat} {d : PyData} (h : Nice n d) (l : n ≤ m) : Nice m d := ⟨h.lay, Nat.le_trans h.deep l, h.same⟩
theorem Nice.shaped {n : Nat} {d : PyData} (h : Nice n d) (l : n ≤ 64) : SeqAt.shaped d = true := by
  show (d.canLay0 && decide (d.depth ≤ 64)) = true
  rw [Bool.and_eq_true]
  exact ⟨h.lay, decide_eq_true (Nat.le_trans h.deep l)⟩
theorem nice_ints {n : Nat} (l : List Int) : NiceAll n (l.map PyData.int) := nice_map _ nice_int l
def rowD (u : Bool) (r : List Int) : PyData := if u = true then .tuple (r.map .int) else .list (r.map .int)
theorem nice_row (u : Bool) (r : List Int) : Nice 1 (rowD u r) := by
  cases u
  · exact nice_list (nice_ints r)
  · exact nice_tup (nice_ints r)
def resD : CfM.Res → PyData
  | .base pt mv rd => .tuple [.str "base", .tuple (pt.map .int), .tuple (mv.map (rowD true)), .tuple (rd.map (rowD true))]
  | .rest ws d => .tuple [.str "rest", .tuple (ws.map .int), .int d]
theorem nice_res (r : CfM.Res) : Nice 3 (resD r) := by
  cases r with
  | base pt mv rd => exact nice_tup (nice_cons (nice_str _ (by decide +kernel)) (nice_cons ((nice_tup (n := 0) (nice_ints pt)).up (by decide)) (nice_cons (nice_tup (nice_map _ (nice_row true) mv)) (nice_cons (nice_tup (nice_map _ (nice_row true) rd)) nice_nil))))
  | rest ws d => exact nice_tup (nice_cons (nice_str _ (by decide +kernel)) (nice_cons ((nice_tup (n := 0) (nice_ints ws)).up (by decide)) (nice_cons (nice_int d) nice_nil)))
theorem dp_all {K : PySem.W.Frag} {H : Hp} : ∀ ns : List Int, DpAll K H (ns.map V.int) (ns.map .int)
  | [] => .nil
  | n :: ns => .cons (.int n) (dp_all ns)
theorem dp_tuprow {K : PySem.W.Frag} {H : Hp} {t : Addr} {r : List Int} (h : H t = some (.tup (r.map V.int))) : Dp K H (.ref t) (.tuple (r.map .int)) := .tup (.inl (.inl h)) (dp_all r)
theorem dp_lstrow {K : PySem.W.Frag} {H : Hp} {t : Addr} {r : List Int} (h : H t = some (.lst (r.map V.int))) : Dp K H (.ref t) (.list (r.map .int)) := .lst (.inl (.inl h)) (dp_all r)
theorem dp_refs {K : PySem.W.Frag} {H : Hp} {u : Bool} {ts : List Addr} {M : List (List Int)} (p : Paired (fun t (v : List Int) => H t = some (if u = true then .tup (v.map V.int) else .lst (v.map V.int))) ts M) : DpAll K H (ts.map V.ref) (M.map (rowD u)) := by
  induction p with
  | nil => exact .nil
  | cons h r ih =>
    refine .cons ?_ ih
    cases u
    · exact dp_lstrow h
    · exact dp_tuprow h
theorem dp_rows {K : PySem.W.Frag} {u : Bool} {H : Hp} {b : Addr} {R : List (List Int)} (h : RowsAt u H b R) : Dp K H (.ref b) (.list (R.map (rowD u))) := by
  obtain ⟨ts, e, p⟩ := h
  exact .lst (.inl (.inl e)) (dp_refs p)
theorem dp_mat {K : PySem.W.Frag} {H : Hp} {b : Addr} {M : List (List Int)} (h : TupMat H b M) : Dp K H (.ref b) (.tuple (M.map (rowD true))) := by
  obtain ⟨ts, e, p⟩ := h
  exact .tup (.inl (.inl e)) (dp_refs (u := true) p)
theorem dp_res {K : PySem.W.Frag} {H : Hp} {p : Addr} {r : CfM.Res} (h : ResAt H p r) : Dp K H (.ref p) (resD r) := by
  cases r with
  | base pt mv rd =>
    obtain ⟨a, b, c, e, e1, e2, e3⟩ := h
    exact .tup (.inl (.inl e)) (.cons (.str _) (.cons (dp_tuprow e1) (.cons (dp_mat e2) (.cons (dp_mat e3) .nil))))
  | rest ws d =>
    obtain ⟨t, e, e1⟩ := h
    exact .tup (.inl (.inl e)) (.cons (.str _) (.cons (dp_tuprow e1) (.cons (.int d) .nil)))
/-! ### _law_base -/
abbrev nLbase : List Str := ["_law_rows_here", "_law_found", "_law_wide", "_law_group", "_law_row", "_law_at", "_law_read", "_law_move", "_law_k"]
theorem scLbase : FnScope nLbase ["_law_rows_here", "_law_found", "_law_wide"] (defScope sLbase) := ⟨rfl, rfl, rfl, by decide +kernel, rfl, by decide +kernel, by decide +kernel⟩
abbrev nLrest : List Str := ["_law_rows_here", "_law_found", "_law_wide", "_law_total", "_law_row", "_law_weight", "_law_at", "_law_a", "_law_b", "_law_coef"]
theorem scLrest : FnScope nLrest ["_law_rows_here", "_law_found", "_law_wide"] (defScope sLrest) := ⟨rfl, rfl, rfl, by decide +kernel, rfl, by decide +kernel, by decide +kernel⟩
def spLbase : Sp := fun vs H Q _ => ∃ (rb p : Addr) (R : List (List Int)) (wd : Nat), vs = [.ref rb, .ref p, .int (wd : Int)] ∧ RowsAt false H rb R ∧ R.length ≤ 1000 ∧ wd ≤ 8 ∧ CfM.Rows wd R ∧ (∀ r ∈ R, CfM.RowB r) ∧
  ((∃ pt mv rd, BaseAt H p pt mv rd ∧ CfM.BaseOk wd R pt mv rd ∧ CfM.BaseB pt mv rd ∧ mv.length ≤ 8 ∧ ∀ H', Same H H' → Q (.bl true) H') ∨ ∃ ws d, RestAt H p ws d ∧ ∀ H', Same H H' → Q (.bl false) H')
def spLrest : Sp := fun vs H Q _ => ∃ (rb p : Addr) (R : List (List Int)) (wd : Nat), vs = [.ref rb, .ref p, .int (wd : Int)] ∧ RowsAt false H rb R ∧ R.length ≤ 1000 ∧ wd ≤ 8 ∧ CfM.Rows wd R ∧ (∀ r ∈ R, CfM.RowB r) ∧
  ∃ ws d, RestAt H p ws d ∧ CfM.RestOk wd R ws d ∧ d ≤ 2 ^ CfM.DB ∧ ∀ H', Same H H' → Q (.bl true) H'
theorem any_false (n : Nat) : (List.replicate n false).any id = false := by
  rw [List.any_eq_false]
  intro x hx
  rw [(List.mem_replicate.mp hx).2]
  simp
theorem falses_of {zs : List V} {n : Nat} (hl : zs.length = n) (h : ∀ (i : Nat) (z : V), zs[i]? = some z → z = .bl false) : zs = (List.replicate n false).map V.bl := by
  apply List.ext_getElem? fun i => ?_
  rw [List.getElem?_map]
  by_cases hi : i < n
  · have e := List.getElem?_eq_getElem (show i < zs.length by omega)
    rw [e, h i _ e, List.getElem?_replicate, if_pos hi]
    rfl
  · rw [List.getElem?_eq_none (by omega), List.getElem?_eq_none (by simp; omega)]
    rfl
theorem row_mem2 {M : List (List Int)} {i : Nat} {m : List Int} (h : M[i]? = some m) : CfM.row M i = m := by
  unfold CfM.row
  rw [List.getD_eq_getElem?_getD, h]
  rfl
theorem big_ok7 : CfM.jj 8 + CfM.mm 8 + 2 ≤ 134217728 := by decide +kernel
theorem big_ok8 : 40 + CfM.PB + 2 ≤ 134217728 := by decide +kernel
theorem big_ok9 : 40 + CfM.mm 8 + 2 ≤ 134217728 := by decide +kernel
theorem cut_tail (c : V) (cs : List V) : cutV (c :: cs) (some 1) none = cs := by
  unfold cutV
  rw [show HT.sIx (c :: cs).length 0 (some 1) = min 1 (c :: cs).length from HT.sIx_nat _ 0 1, HT.sIx_none, show min 1 (c :: cs).length = 1 by rw [List.length_cons]; omega]
  show cs.take ((c :: cs).length - 1) = cs
  exact List.take_of_length_le (by rw [List.length_cons]; omega)
section
variable {P : Program} {w : World} {K : PySem.W.Frag} {mg : Str → Option Value} {base : Heap}
theorem ok_lbase {f fN fD : Addr} {fd fdN fdD : FuncData} {k : Nat} (F : Fun K "_law_base" "_law_base" sLbase f fd) (FN : FnOk P w K mg base CX0 k fN fdN ["_law_thing", "_law_many"] spLnumbers) (kN : PySem.W.keepIn K (.ref fN) = true) (bN : Binds K fdN ["_law_thing", "_law_many"] []) (gN : mg "_law_numbers" = some (.ref fN))
    (FD : FnOk P w K mg base CX0 k fD fdD ["_law_one", "_law_other"] (spDot K)) (kD : PySem.W.keepIn K (.ref fD) = true) (bD : Binds K fdD ["_law_one", "_law_other"] []) (gD : mg "_law_dot" = some (.ref fD))
    (mt : mg "tuple" = none) (mli : mg "list" = none) (ms : mg "isinstance" = none) (ml : mg "len" = none) (ma : mg "all" = none) (my : mg "any" = none) (me : mg "enumerate" = none) (mr : mg "range" = none) (mi : mg "int" = none) : FnOk P w K mg base CX0 (k + 1) f fd ["_law_rows_here", "_law_found", "_law_wide"] spLbase := by
  refine F.ok scLbase (fun vs H Q E h => ?_) (fun cdv A outer s H vs Q E hr h => ?_)
  · obtain ⟨_, _, _, _, rfl, _⟩ := h
    rfl
  · obtain ⟨rb, p, R, wd, rfl, hRA, hRl, h8, hR, hRB, hcase⟩ := h
    refine ⟨_, pss_cons (ps_if (PW.pt (pw_or (pt_not (pt_val (pe_callB call_isi (by rfl) ms (by decide +kernel) (pa_cons (pv 1) (pa_cons (pe_bltn (v := .ty "tuple") (by rfl) mt (by decide +kernel) rfl) pa_nil)))))
          (pw_or (pt_cmpR op_ne (pe_callB call_len_seq (by rfl) ml PySem.boot_len (pa_cons (pv 1) pa_nil)) pe_int (nomark _)) (pw_or1 (pt_cmpR op_ne (pe_ix ix_tup (pv 1) pe_int (fun _ _ => rfl)) pe_str (nomark _))))))
        (pss_one (ps_ret pe_bl)) pss_nil)
      (pss_cons (ps_if (PW.pt (pw_or (PW.pt (pw_and (pt_not (pt_val (pe_callB call_isi (by rfl) ms (by decide +kernel) (pa_cons (pe_ix ix_tup (pv 1) pe_int (fun _ _ => rfl)) (pa_cons (pe_bltn (v := .ty "tuple") (by rfl) mt (by decide +kernel) rfl) pa_nil)))))
            (pw_and1 (pt_not (pt_val (pe_callB call_isi (by rfl) ms (by decide +kernel) (pa_cons (pe_ix ix_tup (pv 1) pe_int (fun _ _ => rfl)) (pa_cons (pe_bltn (v := .ty "list") (by rfl) mli (by decide +kernel) rfl) pa_nil))))))))
          (pw_or1 (pt_not (pt_val (pe_call FN hr (by rfl) gN kN bN .nil pass0 (pa_cons (pe_callTy call_tuple_of (by rfl) mt (by decide +kernel) (pa_cons (pe_ix ix_tup (pv 1) pe_int (fun _ _ => rfl)) pa_nil)) (pa_cons (pv 2) pa_nil))))))))
        (pss_one (ps_ret pe_bl)) pss_nil)
      (pss_cons (ps_for PassesOwn.never rfl (pi_tup (pe_tup (pa_cons (pe_ix ix_tup (pv 1) pe_int (fun _ _ => rfl)) (pa_cons (pe_ix ix_tup (pv 1) pe_int (fun _ _ => rfl)) pa_nil)))) (pg_name (i := 3) scLbase.nd rfl (Or.inl rfl))
        (pss_one (ps_if (PW.pt (pw_or (pt_not (pt_val (pe_callB call_isi (by rfl) ms (by decide +kernel) (pa_cons (pv 3) (pa_cons (pe_bltn (v := .ty "tuple") (by rfl) mt (by decide +kernel) rfl) pa_nil)))))
            (pw_or1 (pt_not (pt_val (pe_callB (cr_all rfl) (by rfl) ma (by decide +kernel) (pa_cons
              (pe_lc (own := [("_law_move", 7)]) (g := gName 7) (tt := tYes) rfl scLbase.nd (pi_tup (pv 3)) (blkOk_by (N := nLbase) (sc := defScope sLbase) (by decide +kernel))
                (fun _ _ _ _ _ => pg_name (i := 7) scLbase.nd rfl (Or.inl rfl)) (fun _ _ _ _ _ => pts_nil)
                (fun _ _ _ _ _ => pe_call FN hr (by rfl) gN kN bN .nil pass0 (pa_cons (pv 7) (pa_cons (pv 2) pa_nil)))) pa_nil)))))))
          (pss_one (ps_ret pe_bl)) pss_nil)))
      (pss_cons (ps_if (pt_cmpR op_ne (pe_callB call_len_seq (by rfl) ml PySem.boot_len (pa_cons (pe_ix ix_tup (pv 1) pe_int (fun _ _ => rfl)) pa_nil)) (pe_callB call_len_seq (by rfl) ml PySem.boot_len (pa_cons (pe_ix ix_tup (pv 1) pe_int (fun _ _ => rfl)) pa_nil)) (nomark _)) (pss_one (ps_ret pe_bl)) pss_nil)
      (pss_cons (ps_for PassesOwn.never rfl (pi_list (pv 0)) (pg_name (i := 4) scLbase.nd rfl (Or.inr rfl))
        (pss_cons (ps_if (pt_cmpR op_ne (pe_op op_add (pe_ix ix_list (pv 4) pe_int (fun _ _ => rfl)) (pe_call FD hr (by rfl) gD kD bD .nil pass0 (pa_cons (pe_slice sl_list (pv 4) (po_some pe_int) po_none) (pa_cons (pe_ix ix_tup (pv 1) pe_int (fun _ _ => rfl)) pa_nil)))) pe_int (nomark _)) (pss_one (ps_ret pe_bl)) pss_nil)
        (pss_one (ps_if (pt_val (pe_callB (cr_any rfl) (by rfl) my (by decide +kernel) (pa_cons
            (pe_lc (own := [("_law_move", 7)]) (g := gName 7) (tt := tYes) rfl scLbase.nd (pi_tup (pe_ix ix_tup (pv 1) pe_int (fun _ _ => rfl))) (blkOk_by (N := nLbase) (sc := defScope sLbase) (by decide +kernel))
              (fun _ _ _ _ _ => pg_name (i := 7) scLbase.nd rfl (Or.inl rfl)) (fun _ _ _ _ _ => pts_nil)
              (fun _ _ _ _ _ => pe_cmpR op_ne (pe_call FD hr (by rfl) gD kD bD .nil pass0 (pa_cons (pe_slice (r := rSlL K) sl_list (pv 4) (po_some pe_int) po_none) (pa_cons (pv 7) pa_nil))) pe_int (nomark _))) pa_nil)))
          (pss_one (ps_ret pe_bl)) pss_nil))))
      (pss_cons (ps_for PassesOwn.never rfl (pi_enumB (by rfl) me (pa_cons (pe_ix ix_tup (pv 1) pe_int (fun _ _ => rfl)) pa_nil)) (pg_tup rfl (pgs_cons (pg_name (i := 5) scLbase.nd rfl (Or.inr rfl)) (pgs_cons (pg_name (i := 6) scLbase.nd rfl (Or.inr rfl)) pgs_nil)))
        (pss_one (ps_if (pt_cmpR (op_neD hr.units)
            (pe_lc (own := [("_law_move", 7)]) (g := gName 7) (tt := tYes) rfl scLbase.nd (pi_tup (pe_ix ix_tup (pv 1) pe_int (fun _ _ => rfl))) (blkOk_by (N := nLbase) (sc := defScope sLbase) (by decide +kernel))
              (fun _ _ _ _ _ => pg_name (i := 7) scLbase.nd rfl (Or.inl rfl)) (fun _ _ _ _ _ => pts_nil)
              (fun _ _ _ _ _ => pe_call FD hr (by rfl) gD kD bD .nil pass0 (pa_cons (pv 6) (pa_cons (pv 7) pa_nil))))
            (pe_lc (own := [("_law_k", 8)]) (g := gName 8) (tt := tYes) rfl scLbase.nd (pi_range1 (by rfl) mr (pa_cons (pe_callB call_len_seq (by rfl) ml PySem.boot_len (pa_cons (pe_ix ix_tup (pv 1) pe_int (fun _ _ => rfl)) pa_nil)) pa_nil)) (blkOk_by (N := nLbase) (sc := defScope sLbase) (by decide +kernel))
              (fun _ _ _ _ _ => pg_name (i := 8) scLbase.nd rfl (Or.inl rfl)) (fun _ _ _ _ _ => pts_nil)
              (fun _ _ _ _ _ => pe_callTy (T := "int") call_int1 (by rfl) mi (by decide +kernel) (pa_cons (pe_cmp (pc_eqI (pv 8) (pv 5))) pa_nil))) (nomark _))
          (pss_one (ps_ret pe_bl)) pss_nil)))
      (pss_one (ps_ret pe_bl))))))), ?_⟩
    obtain ⟨tsR, eR, pR⟩ := hRA
    have lR := Paired.length pR
    rcases hcase.symm with ⟨ws, d, ⟨t, ep, et⟩, q⟩ | ⟨pt, mv, rd, ⟨ap, am, ar, ep, ept, ⟨tm, em, pm⟩, ⟨tr, er, pr⟩⟩, ok, BB, hm8, q⟩
    · refine ⟨.ref p, rfl, .ref p, .ty "tuple", .type "tuple", .type "tuple", true, rfl, .ty _, .base (.tup ep), kind_tt, _, rfl, ?_⟩
      refine iteF ⟨.ref p, rfl, p, _, rfl, .inr (.inl (.inl ep)), rfl, _, rfl, ?_⟩
      exact iteT (iteT (q H (Same.refl _)))
    · have lm := Paired.length pm
      have lr := Paired.length pr
      have hpl := ok.pl
      refine ⟨.ref p, rfl, .ref p, .ty "tuple", .type "tuple", .type "tuple", true, rfl, .ty _, .base (.tup ep), kind_tt, _, rfl, ?_⟩
      refine iteF ⟨.ref p, rfl, p, _, rfl, .inr (.inl (.inl ep)), rfl, _, rfl, ?_⟩
      refine iteF ⟨.ref p, rfl, p, _, 0, .str "base", rfl, rfl, .inl (.inl ep), atI_nat (j := 0) rfl, rfl, _, rfl, ?_⟩
      rw [decide_eq_true rfl]
      refine iteF ?_
      -- found[1]
      refine ⟨.ref p, rfl, p, _, 1, .ref ap, rfl, rfl, .inl (.inl ep), atI_nat (j := 1) rfl, .ref ap, .ty "tuple", .type "tuple", .type "tuple", true, rfl, .ty _, .base (.tup ept), kind_tt, _, rfl, ?_⟩
      refine iteF (iteF ?_)
      refine ⟨.ref p, rfl, p, _, 1, .ref ap, rfl, rfl, .inl (.inl ep), atI_nat (j := 1) rfl, ap, _, rfl, .inr ⟨.inl (.inl ept), ?_⟩⟩
      refine ⟨.int (wd : Int), rfl, ap, pt, by rw [hpl]; rfl, ept, by omega, fun H1 s1 => ⟨_, rfl, iteF ?_⟩⟩
      -- the groups
      refine ⟨.ref p, rfl, p, _, 2, .ref am, rfl, rfl, .inl (.inl (s1 _ _ ep)), atI_nat (j := 2) rfl, .ref p, rfl, p, _, 3, .ref ar, rfl, rfl, .inl (.inl (s1 _ _ ep)), atI_nat (j := 3) rfl, by show 2 ≤ sizeLine; decide, fun tg htg => ?_⟩
      have s2 : Same H1 (upd H1 tg (.tup [.ref am, .ref ar])) := same_upd htg
      have eg : (upd H1 tg (.tup [.ref am, .ref ar])) tg = some (.tup [.ref am, .ref ar]) := upd_same
      generalize upd H1 tg (.tup [.ref am, .ref ar]) = H2 at *
      have s02 := s1.trans s2
      refine ⟨tg, rfl, ⟨_, .inl (.inl eg)⟩, ?_⟩
      refine for_tup (xs := [.ref am, .ref ar]) (fun i σ H' => ∃ z3 z4 z5 z6 z7 z8 : Option V, σ = [some (.ref rb), some (.ref p), some (.int (wd : Int)), z3, z4, z5, z6, z7, z8] ∧ Same H2 H')
        ⟨_, _, _, _, _, _, rfl, Same.refl _⟩ (fun i σ H' _ hP => ?_) (fun i x σ H' hx hP => ?_) (fun σ H' hP => ?_)
      · obtain ⟨_, _, _, _, _, _, _, s3⟩ := hP
        exact .inl (.inl (s3 _ _ eg))
      · obtain ⟨z3, z4, z5, z6, z7, z8, rfl, s3⟩ := hP
        have hg : ∃ (g : Addr) (tg : List Addr) (M : List (List Int)), x = .ref g ∧ H' g = some (.tup (tg.map V.ref)) ∧ Paired (fun t (v : List Int) => H' t = some (.tup (v.map V.int))) tg M ∧ (∀ m ∈ M, m.length = wd) ∧ tg.length ≤ 8 := by
          have s03 := s02.trans s3
          match i, hx with
          | 0, hx => exact ⟨am, tm, mv, (Option.some.inj hx).symm, s03 _ _ em, Paired.mapP pm fun _ _ z => s03 _ _ z, ok.ml, by omega⟩
          | 1, hx => exact ⟨ar, tr, rd, (Option.some.inj hx).symm, s03 _ _ er, Paired.mapP pr fun _ _ z => s03 _ _ z, ok.rl, by have := ok.same; omega⟩
          | i + 2, hx => cases hx
        obtain ⟨g, tgs, M, rfl, e1, pM, hMl, hM8⟩ := hg
        refine ⟨.ref g, rfl, .ref g, .ty "tuple", .type "tuple", .type "tuple", true, rfl, .ty _, .base (.tup e1), kind_tt, _, rfl, iteF ?_⟩
        refine ⟨.ref g, rfl, g, rfl, ⟨_, .inl (.inl e1)⟩, fun D hD => ?_⟩
        refine lc_by (goes_tup (K := K) (.inl (.inl e1))) hD (by rw [List.length_map]; omega) (fun i z _ => z = .bl true) (fun _ _ _ _ _ h => h) (fun i v H3 hi s4 hacc it post hp => ?_) (fun H3 zs s4 eD hzl hz => ?_)
        · obtain ⟨t, m, rfl, emm, em2⟩ := tup_at pM it
          have hml := hMl m (List.mem_of_getElem? emm)
          exact ⟨rfl, .ref t, rfl, .int (wd : Int), rfl, t, m, by rw [hml]; rfl, s4 _ _ em2, by omega, fun H5 s5 => hp _ _ s5 rfl⟩
        · rw [trues_of hzl hz] at eD
          refine ⟨D, _, rfl, .inl (.inl eD), _, rfl, ?_⟩
          rw [all_true]
          exact iteF ⟨_, _, _, _, _, _, rfl, s3.trans s4⟩
      · obtain ⟨z3, z4, z5, z6, z7, z8, rfl, s3⟩ := hP
        have s03 := s02.trans s3
        clear s3 s02 s1 eg htg s2
        -- as many moves as reads
        refine ⟨.ref p, rfl, p, _, 2, .ref am, rfl, rfl, .inl (.inl (s03 _ _ ep)), atI_nat (j := 2) rfl, am, _, rfl, .inr (.inl (.inl (s03 _ _ em))), .ref p, rfl, p, _, 3, .ref ar, rfl, rfl, .inl (.inl (s03 _ _ ep)), atI_nat (j := 3) rfl, ar, _, rfl, .inr (.inl (.inl (s03 _ _ er))), rfl, _, rfl, ?_⟩
        rw [decide_eq_true (show V.int ((tm.map V.ref).length : Int) = V.int ((tr.map V.ref).length : Int) by rw [List.length_map, List.length_map, lm, lr, ok.same])]
        refine iteF ?_
        -- the rows
        refine ⟨.ref rb, rfl, rb, rfl, ⟨_, .inl (.inl (s03 _ _ eR))⟩, ?_⟩
        refine for_list (xs := tsR.map V.ref) (fun i σ H' => ∃ z3 z4 z5 z6 z7 z8 : Option V, σ = [some (.ref rb), some (.ref p), some (.int (wd : Int)), z3, z4, z5, z6, z7, z8] ∧ Same H H')
          ⟨_, _, _, _, _, _, rfl, s03⟩ (fun i σ H' _ hP => ?_) (fun i x σ H' hx hP => ?_) (fun σ H' hP => ?_)
        · obtain ⟨_, _, _, _, _, _, _, s3⟩ := hP
          exact .inl (.inl (s3 _ _ eR))
        · obtain ⟨z3, z4, z5, z6, z7, z8, rfl, s3⟩ := hP
          rw [List.getElem?_map] at hx
          cases et : tsR[i]? with
          | none => rw [et] at hx; cases hx
          | some t =>
            rw [et] at hx
            have hx := (Option.some.inj hx).symm
            subst hx
            obtain ⟨r, err, hrow⟩ := paired_get pR et
            have hrm := List.mem_of_getElem? err
            have hrl := hR.each r hrm
            have RB := hRB r hrm
            have hat := ok.at_ r hrm
            have hno := ok.none r hrm
            cases r with
            | nil => simp at hrl
            | cons c cs =>
              have hcs : cs.length = wd := by simpa using hrl
              have hrow : H t = some (.lst ((c :: cs).map V.int)) := hrow
              rw [List.map_cons] at hrow
              have coef : ∀ i, (CfM.g cs i).natAbs ≤ 2 ^ 40 := RB.coef
              refine ⟨.ref t, rfl, t, _, 0, .int c, rfl, rfl, .inl (.inl (s3 _ _ hrow)), atI_nat (j := 0) rfl, ?_⟩
              refine ⟨.ref t, rfl, 1, rfl, t, _, rfl, .inl (.inl (s3 _ _ hrow)), fun co hco => ?_⟩
              rw [cut_tail]
              have s4 : Same H' (upd H' co (.lst (cs.map V.int))) := same_upd hco
              have eco : (upd H' co (.lst (cs.map V.int))) co = some (.lst (cs.map V.int)) := upd_same
              generalize upd H' co (.lst (cs.map V.int)) = H4 at *
              have s34 := s3.trans s4
              refine ⟨.ref p, rfl, p, _, 1, .ref ap, rfl, rfl, .inl (.inl (s34 _ _ ep)), atI_nat (j := 1) rfl, ?_⟩
              refine ⟨false, true, co, ap, cs, pt, rfl, .inl (.inl eco), .inl (.inl (s34 _ _ ept)), by omega, fun n x y ex ey => ?_, fun H5 s5 => ?_⟩
              · have b1 := coef n
                have b2 := BB.point n
                rw [g_some ex] at b1
                rw [g_some ey] at b2
                exact cmul_of b1 b2 big_ok8
              refine ⟨c, _, rfl, rfl, rfl, _, rfl, ?_⟩
              rw [decide_eq_true (show V.int (c + CfM.dot cs pt) = V.int 0 from congrArg V.int hat)]
              refine iteF ?_
              have s35 := s34.trans s5
              refine ⟨.ref p, rfl, p, _, 2, .ref am, rfl, rfl, .inl (.inl (s35 _ _ ep)), atI_nat (j := 2) rfl, am, rfl, ⟨_, .inl (.inl (s35 _ _ em))⟩, fun D hD => ?_⟩
              refine lc_by (goes_tup (K := K) (.inl (.inl (s35 _ _ em)))) hD (by rw [List.length_map]; omega) (fun i z _ => z = .bl false) (fun _ _ _ _ _ h => h) (fun i v H6 hi s6 hacc it post hp => ?_) (fun H6 zs s6 eD hzl hz => ?_)
              · obtain ⟨t2, m, rfl, emm, em2⟩ := tup_at pm it
                have hmm := List.mem_of_getElem? emm
                have s36 := s35.trans s6
                refine ⟨rfl, .ref t, rfl, 1, rfl, t, _, rfl, .inl (.inl (s36 _ _ hrow)), fun co2 hco2 => ?_⟩
                rw [cut_tail]
                have s7 : Same H6 (upd H6 co2 (.lst (cs.map V.int))) := same_upd hco2
                have eco2 : (upd H6 co2 (.lst (cs.map V.int))) co2 = some (.lst (cs.map V.int)) := upd_same
                generalize upd H6 co2 (.lst (cs.map V.int)) = H7 at *
                refine ⟨.ref t2, rfl, false, true, co2, t2, cs, m, rfl, .inl (.inl eco2), .inl (.inl (s7 _ _ (s36 _ _ em2))), by omega, fun n x y ex ey => ?_, fun H8 s8 => ?_⟩
                · have b1 := coef n
                  have b2 := BB.moves m hmm n
                  rw [g_some ex] at b1
                  rw [g_some ey] at b2
                  exact cmul_of b1 b2 big_ok9
                · have hz : CfM.dot cs m = 0 := hno m hmm
                  refine ⟨rfl, ?_⟩
                  rw [decide_eq_true (show V.int (CfM.dot cs m) = V.int 0 by rw [hz])]
                  exact hp _ _ (s7.trans s8) rfl
              · rw [falses_of hzl hz] at eD
                refine ⟨D, _, rfl, .inl (.inl eD), _, rfl, ?_⟩
                rw [any_false]
                exact iteF ⟨_, _, _, _, _, _, rfl, s35.trans s6⟩
        · obtain ⟨z3, z4, z5, z6, z7, z8, rfl, s3⟩ := hP
          clear s03
          -- the reads
          refine ⟨.ref p, rfl, p, _, 3, .ref ar, rfl, rfl, .inl (.inl (s3 _ _ ep)), atI_nat (j := 3) rfl, true, ar, _, rfl, .inl (.inl (s3 _ _ er)), ?_⟩
          refine for_enumB (fun i σ H' => ∃ z3 z4 z5 z6 z7 z8 : Option V, σ = [some (.ref rb), some (.ref p), some (.int (wd : Int)), z3, z4, z5, z6, z7, z8] ∧ Same H H')
            ⟨_, _, _, _, _, _, rfl, s3⟩ (fun i σ H' hP => ?_) (fun i x T σ H' hx hP hT => ?_) (fun σ H' hP => ?_)
          · obtain ⟨_, _, _, _, _, _, _, s3⟩ := hP
            exact .inl (.inl (s3 _ _ er))
          · obtain ⟨z3, z4, z5, z6, z7, z8, rfl, s3⟩ := hP
            obtain ⟨t, m, rfl, emm, em2⟩ := tup_at pr hx
            have hmm := List.mem_of_getElem? emm
            have hid : i < rd.length := (List.getElem?_eq_some_iff.mp emm).1
            have hsm := ok.same
            have s4 : Same H' (upd H' T (.tup [.int (i : Nat), .ref t])) := same_upd hT
            have eT : (upd H' T (.tup [.int (i : Nat), .ref t])) T = some (.tup [.int (i : Nat), .ref t]) := upd_same
            generalize upd H' T (.tup [.int (i : Nat), .ref t]) = H4 at *
            have s34 := s3.trans s4
            refine ⟨T, _, rfl, .inl (.inl eT), rfl, _, _, rfl, _, _, rfl, rfl, ?_⟩
            refine ⟨.ref p, rfl, p, _, 2, .ref am, rfl, rfl, .inl (.inl (s34 _ _ ep)), atI_nat (j := 2) rfl, am, rfl, ⟨_, .inl (.inl (s34 _ _ em))⟩, fun D hD => ?_⟩
            refine lc_by (goes_tup (K := K) (.inl (.inl (s34 _ _ em)))) hD (by rw [List.length_map]; omega) (fun j z _ => z = .int (if i = j then 1 else 0)) (fun _ _ _ _ _ h => h) (fun j v H6 hj s6 hacc it post hp => ?_) (fun H6 zs s6 eD hzl hz => ?_)
            · obtain ⟨t2, m2, rfl, emm2, em3⟩ := tup_at pm it
              have hmm2 := List.mem_of_getElem? emm2
              have hjd : j < mv.length := (List.getElem?_eq_some_iff.mp emm2).1
              have s36 := s34.trans s6
              refine ⟨rfl, .ref t, rfl, .ref t2, rfl, true, true, t, t2, m, m2, rfl, .inl (.inl (s36 _ _ em2)), .inl (.inl (s36 _ _ em3)), by rw [ok.rl m hmm]; omega, fun n x y ex ey => ?_, fun H8 s8 => hp _ _ s8 ?_⟩
              · have b1 := BB.reads m hmm n
                have b2 := BB.moves m2 hmm2 n
                rw [g_some ex] at b1
                rw [g_some ey] at b2
                exact cmul_of b1 b2 big_ok7
              · have := ok.one i j (by omega) hjd
                rw [row_mem2 emm, row_mem2 emm2] at this
                rw [this]
            have ez : zs = ((List.range mv.length).map fun j => if i = j then (1 : Int) else 0).map V.int := ints_of (f := fun j => if i = j then (1 : Int) else 0) (by rw [hzl, List.length_map, lm]) hz
            rw [ez] at eD
            have s36 := s34.trans s6
            refine ⟨.ref p, rfl, p, _, 2, .ref am, rfl, rfl, .inl (.inl (s36 _ _ ep)), atI_nat (j := 2) rfl, am, _, rfl, .inr (.inl (.inl (s36 _ _ em))), ((tm.map V.ref).length : Int), rfl, by rw [List.length_map]; omega, by rw [List.length_map]; omega, fun D2 hD2 => ?_⟩
            rw [Int.toNat_natCast]
            refine lc_rangeI (fun j => if i = j then 1 else 0) (by rw [List.length_map]; omega) hD2 (fun _ => rfl) (fun j H7 post hj s7 hp => ?_) (fun H7 s7 eD2 => ?_)
            · refine ⟨_, rfl, _, rfl, (0 + (j : Int)), (i : Int), rfl, rfl, .inr ⟨_, rfl, ?_⟩⟩
              have e : (if decide ((0 : Int) + (j : Int) = (i : Int)) = true then (1 : Int) else 0) = if i = j then 1 else 0 := by
                by_cases z : i = j
                · rw [if_pos z, if_pos (by rw [z]; simp)]
                · rw [if_neg z, if_neg (by simp; omega)]
              rw [← e] at hp
              exact hp
            · rw [List.length_map, lm] at eD2
              have nd := nice_list (n := 0) (nice_ints ((List.range mv.length).map fun j => if i = j then (1 : Int) else 0))
              refine ⟨_, _, dp_lstrow (s7 _ _ eD), dp_lstrow eD2, nd.shaped (by decide), nd.shaped (by decide), _, rfl, ?_⟩
              rw [nd.same]
              exact iteF ⟨_, _, _, _, _, _, rfl, s36.trans s7⟩
          · obtain ⟨z3, z4, z5, z6, z7, z8, rfl, s3⟩ := hP
            exact q _ s3
end
end CfW

namespace CfW
open PySem PySem.Spec PyProof.Rows L2 CfX
section
variable {P : Program} {w : World} {K : PySem.W.Frag} {mg : Str → Option Value} {base : Heap}
theorem ok_lrest {f fN fW : Addr} {fd fdN fdW : FuncData} {k : Nat} (F : Fun K "_law_rest" "_law_rest" sLrest f fd) (FN : FnOk P w K mg base CX0 k fN fdN ["_law_thing", "_law_many"] spLnumbers) (kN : PySem.W.keepIn K (.ref fN) = true) (bN : Binds K fdN ["_law_thing", "_law_many"] []) (gN : mg "_law_numbers" = some (.ref fN))
    (FW : FnOk P w K mg base CX0 k fW fdW ["_law_thing"] spLwhole) (kW : PySem.W.keepIn K (.ref fW) = true) (bW : Binds K fdW ["_law_thing"] []) (gW : mg "_law_whole" = some (.ref fW))
    (mt : mg "tuple" = none) (ms : mg "isinstance" = none) (ml : mg "len" = none) (ma : mg "all" = none) (mz : mg "zip" = none) (mr : mg "range" = none) : FnOk P w K mg base CX0 (k + 1) f fd ["_law_rows_here", "_law_found", "_law_wide"] spLrest := by
  refine F.ok scLrest (fun vs H Q E h => ?_) (fun cdv A outer s H vs Q E hr h => ?_)
  · obtain ⟨_, _, _, _, rfl, _⟩ := h
    rfl
  · obtain ⟨rb, p, R, wd, rfl, ⟨tsR, eR, pR⟩, hRl, h8, hR, hRB, ws, d, ⟨t, ep, et⟩, ok, hdb, q⟩ := h
    refine ⟨_, pss_cons (ps_if (PW.pt (pw_or (pt_not (pt_val (pe_callB call_isi (by rfl) ms (by decide +kernel) (pa_cons (pv 1) (pa_cons (pe_bltn (v := .ty "tuple") (by rfl) mt (by decide +kernel) rfl) pa_nil)))))
          (pw_or (pt_cmpR op_ne (pe_callB call_len_seq (by rfl) ml PySem.boot_len (pa_cons (pv 1) pa_nil)) pe_int (nomark _)) (pw_or1 (pt_cmpR op_ne (pe_ix ix_tup (pv 1) pe_int (fun _ _ => rfl)) pe_str (nomark _))))))
        (pss_one (ps_ret pe_bl)) pss_nil)
      (pss_cons (ps_if (PW.pt (pw_or (pt_not (pt_val (pe_call FN hr (by rfl) gN kN bN .nil pass0 (pa_cons (pe_ix ix_tup (pv 1) pe_int (fun _ _ => rfl)) (pa_cons (pe_callB call_len_seq (by rfl) ml PySem.boot_len (pa_cons (pv 0) pa_nil)) pa_nil)))))
          (pw_or (pt_not (pt_val (pe_call FW hr (by rfl) gW kW bW .nil pass0 (pa_cons (pe_ix ix_tup (pv 1) pe_int (fun _ _ => rfl)) pa_nil)))) (pw_or1 (pt_cmpR op_lt (pe_ix ix_tup (pv 1) pe_int (fun _ _ => rfl)) pe_int (nomark _))))))
        (pss_one (ps_ret pe_bl)) pss_nil)
      (pss_cons (ps_setLc (i := 3) (own := [("_law_at", 6)]) (g := gName 6) (tt := tYes) rfl scLrest.nd rfl rfl (sw_true rfl rfl rfl (by decide +kernel)) (pi_range1 (by rfl) mr (pa_cons (pe_op op_add (pv 2) pe_int) pa_nil)) (blkOk_by (N := nLrest) (sc := defScope sLrest) (by decide +kernel))
          (fun _ _ _ _ _ => pg_name (i := 6) scLrest.nd rfl (Or.inl rfl)) (fun _ _ _ _ _ => pts_nil) (fun _ _ _ _ _ => pe_int))
      (pss_cons (ps_for PassesOwn.never rfl (pi_zipB (by rfl) mz (pa_cons (pv 0) (pa_cons (pe_ix ix_tup (pv 1) pe_int (fun _ _ => rfl)) pa_nil))) (pg_tup rfl (pgs_cons (pg_name (i := 4) scLrest.nd rfl (Or.inl rfl)) (pgs_cons (pg_name (i := 5) scLrest.nd rfl (Or.inr rfl)) pgs_nil)))
        (pss_one (ps_setLc (i := 3) (own := [("_law_a", 7), ("_law_b", 8)]) (g := gTup K 2 (gCons (gName 7) (gCons (gName 8) gNil))) (tt := tYes) rfl scLrest.nd rfl rfl (sw_true rfl rfl rfl (by decide +kernel)) (pi_zipB (by rfl) mz (pa_cons (pv 3) (pa_cons (pv 4) pa_nil)))
          (blkOk_by (N := nLrest) (sc := defScope sLrest) (by decide +kernel))
          (fun _ _ _ _ _ => pg_tup rfl (pgs_cons (pg_name (i := 7) scLrest.nd rfl (Or.inl rfl)) (pgs_cons (pg_name (i := 8) scLrest.nd rfl (Or.inl rfl)) pgs_nil))) (fun _ _ _ _ _ => pts_nil)
          (fun _ _ _ _ _ => pe_op op_add (pv 7) (pe_op op_mulX (pv 5) (pv 8))))))
      (pss_one (ps_ret (pe_and (pe_cmpR op_ne (pe_op op_modN (pe_ix ix_list (pv 3) pe_int (fun _ _ => rfl)) (pe_ix ix_tup (pv 1) pe_int (fun _ _ => rfl))) pe_int (nomark _)) (pe_one (pe_callB (cr_all rfl) (by rfl) ma (by decide +kernel) (pa_cons
          (pe_lc (own := [("_law_coef", 9)]) (g := gName 9) (tt := tYes) rfl scLrest.nd (pi_list (pe_slice sl_list (pv 3) (po_some pe_int) po_none)) (blkOk_by (N := nLrest) (sc := defScope sLrest) (by decide +kernel))
            (fun _ _ _ _ _ => pg_name (i := 9) scLrest.nd rfl (Or.inl rfl)) (fun _ _ _ _ _ => pts_nil)
            (fun _ _ _ _ _ => pe_cmpR op_eq (pe_op op_modN (pv 9) (pe_ix (r := rIxT K) ix_tup (pv 1) pe_int (fun _ _ => rfl))) pe_int (nomark _))) pa_nil))))))))), ?_⟩
    have lR := Paired.length pR
    have lw := ok.len
    have hd2 := ok.two
    refine ⟨.ref p, rfl, .ref p, .ty "tuple", .type "tuple", .type "tuple", true, rfl, .ty _, .base (.tup ep), kind_tt, _, rfl, ?_⟩
    refine iteF ⟨.ref p, rfl, p, _, rfl, .inr (.inl (.inl ep)), rfl, _, rfl, ?_⟩
    refine iteF ⟨.ref p, rfl, p, _, 0, .str "rest", rfl, rfl, .inl (.inl ep), atI_nat (j := 0) rfl, rfl, _, rfl, ?_⟩
    rw [decide_eq_true rfl]
    refine iteF ?_
    refine ⟨.ref p, rfl, p, _, 1, .ref t, rfl, rfl, .inl (.inl ep), atI_nat (j := 1) rfl, .ref rb, rfl, rb, _, rfl, .inl (.inl (.inl eR)), ?_⟩
    refine ⟨t, ws, by rw [List.length_map, lR, ← lw]; rfl, et, by omega, fun H1 s1 => ⟨_, rfl, iteF ?_⟩⟩
    refine ⟨.ref p, rfl, p, _, 2, .int d, rfl, rfl, .inl (.inl (s1 _ _ ep)), atI_nat (j := 2) rfl, d, rfl, _, rfl, iteF ?_⟩
    refine ⟨.ref p, rfl, p, _, 2, .int d, rfl, rfl, .inl (.inl (s1 _ _ ep)), atI_nat (j := 2) rfl, d, 2, rfl, rfl, _, rfl, ?_⟩
    rw [decide_eq_false (by omega)]
    refine iteF ?_
    -- total
    refine ⟨.int (wd : Int), rfl, (wd : Int), 1, rfl, rfl, (wd : Int) + 1, rfl, by omega, by omega, fun D hD => ?_⟩
    rw [show ((wd : Int) + 1).toNat = wd + 1 by omega]
    refine lc_rangeI (fun _ => 0) (by omega) hD (fun _ => rfl) (fun i H3 post hi s hp => hp) (fun H2 s2 eD => ?_)
    have eD : H2 D = some (.lst ((List.replicate (wd + 1) (0 : Int)).map V.int)) := by
      rw [eD, List.map_const', List.length_range]
    have s02 := s1.trans s2
    have hwB : ∀ x ∈ ws, x.natAbs ≤ 2 ^ CfM.DB := fun x hx => by
      obtain ⟨a1, a2⟩ := ok.low x hx
      have e := CfM.pow_cast CfM.DB
      generalize 2 ^ CfM.DB = Z at *
      generalize (2 : Int) ^ CfM.DB = Z2 at *
      omega
    refine ⟨.ref rb, rfl, .ref p, rfl, p, _, 1, .ref t, rfl, rfl, .inl (.inl (s02 _ _ ep)), atI_nat (j := 1) rfl, false, true, rb, t, _, _, rfl, .inl (.inl (s02 _ _ eR)), .inl (.inl (s02 _ _ et)), ?_⟩
    refine for_zipB (fun i σ H' => ∃ (D : Addr) (z4 z5 z6 z7 z8 z9 : Option V), σ = [some (.ref rb), some (.ref p), some (.int (wd : Int)), some (.ref D), z4, z5, z6, z7, z8, z9] ∧ Same H H' ∧ H' D = some (.lst ((((R.zip ws).take i).foldl (fun t p => CfM.ax p.2 t p.1) (List.replicate (wd + 1) 0)).map V.int)))
      ⟨D, _, _, _, _, _, _, rfl, s02, eD⟩ (fun i σ H' hP => ?_) (fun i x y T σ H' hx hy hP hT => ?_) (fun σ H' hP => ?_)
    · obtain ⟨_, _, _, _, _, _, _, _, sm, _⟩ := hP
      exact ⟨.inl (.inl (sm _ _ eR)), .inl (.inl (sm _ _ et))⟩
    · obtain ⟨D, z4, z5, z6, z7, z8, z9, rfl, sm, eD⟩ := hP
      rw [List.getElem?_map] at hx
      cases ett : tsR[i]? with
      | none => rw [ett] at hx; cases hx
      | some tr =>
        rw [ett] at hx
        have hx := (Option.some.inj hx).symm
        subst hx
        obtain ⟨r, er, hrow⟩ := paired_get pR ett
        obtain ⟨wt, ewt, rfl⟩ := map_int_at hy
        have hrm := List.mem_of_getElem? er
        have hwm := List.mem_of_getElem? ewt
        have ez : (R.zip ws)[i]? = some (r, wt) := by
          rw [List.getElem?_zip_eq_some]
          exact ⟨er, ewt⟩
        have etk : ((R.zip ws).take (i + 1)).foldl (fun t p => CfM.ax p.2 t p.1) (List.replicate (wd + 1) 0) = CfM.ax wt (((R.zip ws).take i).foldl (fun t p => CfM.ax p.2 t p.1) (List.replicate (wd + 1) 0)) r := by
          rw [List.take_add_one, ez, List.foldl_append]
          rfl
        rw [etk]
        have lt : (((R.zip ws).take i).foldl (fun t p => CfM.ax p.2 t p.1) (List.replicate (wd + 1) 0)).length = wd + 1 := fold_len _ _ (by rw [List.length_replicate]) fun q hq => hR.each _ (List.of_mem_zip (List.mem_of_mem_take hq)).1
        generalize ((R.zip ws).take i).foldl (fun t p => CfM.ax p.2 t p.1) (List.replicate (wd + 1) 0) = t0 at *
        have hrow : H tr = some (.lst (r.map V.int)) := hrow
        have sT : Same H' (upd H' T (.tup [.ref tr, .int wt])) := same_upd hT
        have eT : (upd H' T (.tup [.ref tr, .int wt])) T = some (.tup [.ref tr, .int wt]) := upd_same
        have smT := sm.trans sT
        have eD2 := sT _ _ eD
        generalize upd H' T (.tup [.ref tr, .int wt]) = H5 at *
        refine ⟨T, _, rfl, .inl (.inl eT), rfl, _, _, rfl, _, _, rfl, rfl, ?_⟩
        refine ⟨.ref D, rfl, .ref tr, rfl, false, false, D, tr, _, _, rfl, .inl (.inl eD2), .inl (.inl (smT _ _ hrow)), fun Dn hDn => ?_⟩
        refine lc_zipI (K := K) (t := false) (u := false) (fun x y => x + wt * y) (.inl (.inl eD2)) (.inl (.inl (smT _ _ hrow))) (by omega) hDn (fun _ _ => rfl) (fun n x y H6 post f1 f2 s6 hpost => ?_) (fun H6 s6 e6 => ?_)
        · have b1 := hwB wt hwm
          have b2 := row_all (hRB r hrm) n
          rw [g_some f2] at b2
          exact ⟨.int x, rfl, .int wt, rfl, .int y, rfl, wt, y, rfl, rfl, cmul_of b1 b2 (Nat.le_trans (by omega) big_ok4), x, _, rfl, rfl, hpost⟩
        · exact ⟨Dn, _, _, _, _, _, _, rfl, smT.trans s6, e6⟩
    · obtain ⟨D, z4, z5, z6, z7, z8, z9, rfl, sm, eD⟩ := hP
      rw [List.length_map, List.length_map, lR, lw, Nat.min_self, List.take_of_length_le (by rw [List.length_zip]; omega)] at eD
      have eD : H' D = some (.lst ((CfM.totF R ws (List.replicate (wd + 1) 0)).map V.int)) := eD
      obtain ⟨ltot, gtot⟩ := CfM.tot_g (n := wd + 1) R ws (List.replicate (wd + 1) 0) (by rw [List.length_replicate]) hR.each lw
      have gz : ∀ j, CfM.g (List.replicate (wd + 1) (0 : Int)) j = 0 := fun j => by
        unfold CfM.g
        rw [List.getD_eq_getElem?_getD, List.getElem?_replicate]
        split <;> rfl
      cases etot : CfM.totF R ws (List.replicate (wd + 1) 0) with
      | nil => rw [etot] at ltot; simp at ltot
      | cons c0 cs =>
        rw [etot] at eD ltot gtot
        have lcs : cs.length = wd := by simpa using ltot
        have g0 : c0 = CfM.total R ws 0 := by
          have := gtot 0
          rw [gz] at this
          have e : CfM.g (c0 :: cs) 0 = c0 := rfl
          omega
        have gs : ∀ j, CfM.g cs j = CfM.total R ws (j + 1) := fun j => by
          have := gtot (j + 1)
          rw [gz] at this
          have e : CfM.g (c0 :: cs) (j + 1) = CfM.g cs j := rfl
          omega
        rw [List.map_cons] at eD
        refine ⟨.ref D, rfl, D, _, 0, .int c0, rfl, rfl, .inl (.inl eD), atI_nat (j := 0) rfl, .ref p, rfl, p, _, 2, .int d, rfl, rfl, .inl (.inl (sm _ _ ep)), atI_nat (j := 2) rfl, c0, d, rfl, rfl, by omega, rfl, _, rfl, ?_⟩
        rw [decide_eq_false (show ¬ V.int (c0.fmod d) = V.int 0 from fun z => ok.const (by rw [← g0]; exact (fmod_dvd (by omega)).mp (V.int.inj z)))]
        refine iteT ?_
        refine ⟨.ref D, rfl, 1, rfl, D, _, rfl, .inl (.inl eD), fun co hco => ?_⟩
        rw [cut_tail]
        have sco : Same H' (upd H' co (.lst (cs.map V.int))) := same_upd hco
        have eco : (upd H' co (.lst (cs.map V.int))) co = some (.lst (cs.map V.int)) := upd_same
        generalize upd H' co (.lst (cs.map V.int)) = H4 at *
        refine ⟨co, rfl, ⟨_, .inl (.inl eco)⟩, fun D2 hD2 => ?_⟩
        refine lc_by (goes_list (K := K) (.inl (.inl eco))) hD2 (by rw [List.length_map]; omega) (fun i z _ => z = .bl true) (fun _ _ _ _ _ h => h) (fun i v H5 hi s5 hacc it post hp => ?_) (fun H5 zs s5 eD2 hzl hz => ?_)
        · obtain ⟨x, ex, rfl⟩ := map_int_at it
          have hi2 : i < wd := by rw [List.length_map] at hi; omega
          have hz : x.fmod d = 0 := (fmod_dvd (by omega)).mpr (by
            have := gs i
            rw [g_some ex] at this
            rw [this]
            exact ok.coef (i + 1) (by omega) (by omega))
          have ee : (decide (V.int (x.fmod d) = V.int 0)) = true := decide_eq_true (by rw [hz])
          have z := hp (.bl (decide (V.int (x.fmod d) = V.int 0))) H5 (Same.refl _) (by rw [ee])
          exact ⟨rfl, .int x, rfl, .ref p, rfl, p, _, 2, .int d, rfl, rfl, .inl (.inl (s5 _ _ (sco _ _ (sm _ _ ep)))), atI_nat (j := 2) rfl, x, d, rfl, rfl, by omega, rfl, z⟩
        · rw [trues_of hzl hz] at eD2
          refine ⟨D2, _, rfl, .inl (.inl eD2), ?_⟩
          rw [all_true]
          exact q H5 ((sm.trans sco).trans s5)
end
end CfW

namespace CfW
open PySem PySem.Spec PyProof.Rows L2 CfX
abbrev nLtake : List Str := ["_law_pool_here", "_law_many", "_law_digit", "_law_one", "_law_two"]
theorem scLtake : FnScope nLtake ["_law_pool_here", "_law_many"] (defScope sLtake) := ⟨rfl, rfl, rfl, by decide +kernel, rfl, by decide +kernel, by decide +kernel⟩
abbrev nLpool : List Str := ["_law_script", "_law_k", "_law_cell"]
theorem scLpool : FnScope nLpool ["_law_script", "_law_k"] (defScope sLpool) := ⟨rfl, rfl, rfl, by decide +kernel, rfl, by decide +kernel, by decide +kernel⟩
abbrev nLfolded : List Str := ["_law_script", "_law_most", "_law_k"]
theorem scLfolded : FnScope nLfolded ["_law_script", "_law_most"] (defScope sLfolded) := ⟨rfl, rfl, rfl, by decide +kernel, rfl, by decide +kernel, by decide +kernel⟩
abbrev nLnumber : List Str := ["_law_pool_here", "_law_size", "_law_found", "_law_turn"]
theorem scLnumber : FnScope nLnumber ["_law_pool_here", "_law_size"] (defScope sLnumber) := ⟨rfl, rfl, rfl, by decide +kernel, rfl, by decide +kernel, by decide +kernel⟩
/-- what take looks at -/
def PoolAt (H : Hp) (p : Addr) (n : Nat) : Prop := ∃ a b c : Int, H p = some (.lst [.int a, .int b, .int c]) ∧ 0 ≤ b ∧ b < 1000000007 ∧ 0 ≤ c ∧ c ≤ (n : Int)
theorem PoolAt.up {H : Hp} {p : Addr} {n m : Nat} (h : PoolAt H p n) (l : n ≤ m) : PoolAt H p m := by
  obtain ⟨a, b, c, e, h1, h2, h3, h4⟩ := h
  exact ⟨a, b, c, e, h1, h2, h3, by omega⟩
theorem PoolAt.same {H H' : Hp} {p : Addr} {n : Nat} (h : PoolAt H p n) (s : Same H H') : PoolAt H' p n := by
  obtain ⟨a, b, c, e, r⟩ := h
  exact ⟨a, b, c, s _ _ e, r⟩
theorem But.refl {p : Addr} {H : Hp} : But p H H := fun _ _ _ e => e
theorem But.trans {p : Addr} {H H1 H2 : Hp} (a : But p H H1) (b : But p H1 H2) : But p H H2 := fun x o n e => b x o n (a x o n e)
theorem fm_lt {a b : Int} (hb : 0 < b) : 0 ≤ a.fmod b ∧ a.fmod b < b := by
  rw [Int.fmod_eq_emod_of_nonneg _ (by omega)]
  exact ⟨Int.emod_nonneg _ (by omega), Int.emod_lt_of_pos _ hb⟩
theorem fm_bd {a b : Int} {n : Nat} (hb : 0 < b) (h : b.natAbs ≤ 2 ^ n) : (a.fmod b).natAbs ≤ 2 ^ n := by
  have := fm_lt (a := a) hb
  omega
theorem pe_stepK {X : Cx} {K : PySem.W.Frag} (hK : X.K = K) {e lo hi st : Expr} {te : TE} {tl th ts : TO} {p3 pos : Pos} (he : PE X e te) (hl : PO X (some lo) tl) (hh : PO X (some hi) th) (hs : PO X (some st) ts)
    (hsub : ∀ a b : Addr, subscripted (.Slice (some lo) (some hi) (some st) p3) false (.ref a) (.ref b) = operate [.ref a, .ref b] (getItem (.ref a) (.ref b)) := by intros; with_unfolding_all rfl) :
    PE X (.Subscript e (.Slice (some lo) (some hi) (some st) p3) pos) (tStepI K te tl th ts) := by
  subst hK
  exact pe_stepI he hl hh hs hsub
theorem ints_ex : ∀ (zs : List V), (∀ (i : Nat) (z : V), zs[i]? = some z → ∃ y, z = .int y) → ∃ ys : List Int, zs = ys.map V.int
  | [], _ => ⟨[], rfl⟩
  | z :: zs, h => by
    obtain ⟨y, rfl⟩ := h 0 z rfl
    obtain ⟨ys, rfl⟩ := ints_ex zs fun i z e => h (i + 1) z e
    exact ⟨y :: ys, rfl⟩
theorem mil_le (i : Nat) (h : i ≤ 3) : (1000000 : Int) ^ i ≤ 1000000000000000000 := by
  rcases (by omega : i = 0 ∨ i = 1 ∨ i = 2 ∨ i = 3) with rfl | rfl | rfl | rfl <;> decide +kernel
def spTake : Sp := fun vs H Q _ => ∃ (p : Addr) (m : Int) (n : Nat), vs = [.ref p, .int m] ∧ 0 < m ∧ PoolAt H p n ∧ n ≤ 300000 ∧ ∀ (r : Int) (H' : Hp), 0 ≤ r → r < m → But p H H' → PoolAt H' p (n + 1) → Q (.int r) H'
def spPool (K : PySem.W.Frag) : Sp := fun vs H Q _ => ∃ (a : Addr) (xs : List Int) (k : Nat), vs = [.ref a, .int (k : Int)] ∧ SqL K H a (xs.map V.int) ∧ xs.length ≤ 1000 ∧ k ≤ 12 ∧ ∀ H' p, Same H H' → H p = none → PoolAt H' p 100000 → Q (.ref p) H'
def spFolded (K : PySem.W.Frag) : Sp := fun vs H Q _ => ∃ (a : Addr) (xs : List Int), vs = [.ref a, .int 12] ∧ SqL K H a (xs.map V.int) ∧ xs.length ≤ 1000 ∧ ∀ H' p (ys : List Int), Same H H' → H' p = some (.lst (ys.map V.int)) → 1 ≤ ys.length → ys.length ≤ 12 → Q (.ref p) H'
def spNumber : Sp := fun vs H Q _ => ∃ (p : Addr) (sz n : Nat), vs = [.ref p, .int (sz : Int)] ∧ sz ≤ 3 ∧ PoolAt H p n ∧ n ≤ 200000 ∧ ∀ (x : Int) (H' : Hp), x.natAbs < 10 * 1000000 ^ sz → But p H H' → PoolAt H' p (n + 5) → Q (.int x) H'
section
variable {P : Program} {w : World} {K : PySem.W.Frag} {mg : Str → Option Value} {base : Heap}
theorem ok_take {f : Addr} {fd : FuncData} {k : Nat} (F : Fun K "_law_take" "_law_take" sLtake f fd) (hk : 40 ≤ k) (sb : base.NoSeer) (tr : P.given.tree = none) : FnOk P w K mg base CX0 (k + 1) f fd ["_law_pool_here", "_law_many"] spTake := by
  refine F.ok scLtake (fun vs H Q E h => ?_) (fun cdv A outer s H vs Q E hr h => ?_)
  · obtain ⟨_, _, _, rfl, _⟩ := h
    rfl
  · obtain ⟨p, m, n, rfl, hm, ⟨a, b, c, ep, hb0, hb1, hc0, hc1⟩, hn, q⟩ := h
    have hpy := room100 hr hk
    refine ⟨_, pss_cons (ps_if (pt_cmpR op_gt (pe_ix ix_list (pv 0) pe_int (fun _ _ => rfl)) pe_int (nomark _))
        (pss_cons (ps_set (i := 2) scLtake.nd rfl (.inl rfl) (pe_op op_modN (pe_ix ix_list (pv 0) pe_int (fun _ _ => rfl)) (pv 1)))
        (pss_cons (ps_asg (pe_op (op_fdivP ⟨sb, tr, hpy, ⟨_, _, rfl, rfl, rfl, rfl, rfl⟩⟩) (pe_ix ix_list (pv 0) pe_int (fun _ _ => rfl)) (pv 1)) (pg_sub (pv 0) pe_int set_list))
        (pss_one (ps_ret (pv 2))))) pss_nil)
      (pss_cons (ps_asg (pe_op op_add (pe_ix ix_list (pv 0) pe_int (fun _ _ => rfl)) pe_int) (pg_sub (pv 0) pe_int set_list))
      (pss_cons (ps_set (i := 3) scLtake.nd rfl (.inl rfl) (pe_op op_modN (pe_op op_add (pe_op op_add (pe_op op_mulX (pe_ix ix_list (pv 0) pe_int (fun _ _ => rfl)) pe_int) (pe_op op_mulX pe_int (pe_ix ix_list (pv 0) pe_int (fun _ _ => rfl)))) pe_int) pe_int))
      (pss_cons (ps_set (i := 3) scLtake.nd rfl (.inl rfl) (pe_op op_modN (pe_op op_pow (pv 3) pe_int) pe_int))
      (pss_cons (ps_set (i := 4) scLtake.nd rfl (.inl rfl) (pe_op op_modN (pe_op op_pow (pe_op op_add (pe_op op_add (pv 3) (pe_op op_mulX (pe_op op_mulX pe_int (pe_ix ix_list (pv 0) pe_int (fun _ _ => rfl))) (pe_ix ix_list (pv 0) pe_int (fun _ _ => rfl)))) (pe_op op_modN (pe_ix ix_list (pv 0) pe_int (fun _ _ => rfl)) pe_int)) pe_int) pe_int))
      (pss_one (ps_ret (pe_op op_modN (pe_op (op_fdivP ⟨sb, tr, hpy, ⟨_, _, rfl, rfl, rfl, rfl, rfl⟩⟩) (pe_op op_modN (pe_op op_mulX (pv 4) pe_int) pe_int) pe_int) (pv 1)))))))), ?_⟩
    refine ⟨.ref p, rfl, p, _, 0, .int a, rfl, rfl, .inl (.inl ep), atI_nat (j := 0) rfl, a, 0, rfl, rfl, _, rfl, ite2 (fun h => ?_) (fun h => ?_)⟩
    · refine ⟨.ref p, rfl, p, _, 0, .int a, rfl, rfl, .inl (.inl ep), atI_nat (j := 0) rfl, .int m, rfl, a, m, rfl, rfl, by omega, ?_⟩
      refine ⟨.ref p, rfl, p, _, 0, .int a, rfl, rfl, .inl (.inl ep), atI_nat (j := 0) rfl, .int m, rfl, a, m, rfl, rfl, by omega, ?_⟩
      refine ⟨.ref p, rfl, p, _, 0, 0, rfl, rfl, ep, rfl, ?_⟩
      refine ⟨_, rfl, ?_⟩
      obtain ⟨r0, r1⟩ := fm_lt (a := a) hm
      exact q _ _ r0 r1 But.upd ⟨_, b, c, upd_same, hb0, hb1, hc0, by omega⟩
    · refine ⟨.ref p, rfl, p, _, 2, .int c, rfl, rfl, .inl (.inl ep), atI_nat (j := 2) rfl, c, 1, rfl, rfl, ?_⟩
      refine ⟨.ref p, rfl, p, _, 2, 2, rfl, rfl, ep, rfl, ?_⟩
      have b2 : But p H (upd H p (.lst [.int a, .int b, .int (c + 1)])) := But.upd
      have e2 : (upd H p (.lst [.int a, .int b, .int (c + 1)])) p = some (.lst [.int a, .int b, .int (c + 1)]) := upd_same
      have hbb : b.natAbs ≤ 2 ^ 30 := by omega
      have hcb : (c + 1).natAbs ≤ 2 ^ 19 := by omega
      have fin : ∀ x : Int, Q (.int (x.fmod m)) (upd H p (.lst [.int a, .int b, .int (c + 1)])) := fun x => by
        obtain ⟨r0, r1⟩ := fm_lt (a := x) hm
        exact q _ _ r0 r1 b2 ⟨_, _, _, e2, hb0, hb1, by omega, by omega⟩
      refine ⟨.ref p, rfl, p, _, 1, .int b, rfl, rfl, .inl (.inl e2), atI_nat (j := 1) rfl, b, 48271, rfl, rfl, cmul_of hbb (show (48271 : Int).natAbs ≤ 2 ^ 16 by decide) (by omega), .ref p, rfl, p, _, 2, .int (c + 1), rfl, rfl, .inl (.inl e2), atI_nat (j := 2) rfl, 104729, c + 1, rfl, rfl,
        cmul_of (show (104729 : Int).natAbs ≤ 2 ^ 17 by decide) hcb (by omega), _, _, rfl, rfl, _, 101, rfl, rfl, _, 2147483629, rfl, rfl, show (2147483629 : Int) ≠ 0 by decide, ?_⟩
      refine ⟨_, rfl, _, 5, rfl, rfl, ⟨by decide, by decide, ?_⟩, _, 2147483587, rfl, rfl, show (2147483587 : Int) ≠ 0 by decide, ?_⟩
      · refine Nat.lt_of_le_of_lt (fm_bd (n := 32) (by decide) (by decide)) (by decide)
      have h3 : ∀ x : Int, (69621 * (c + 1) * (c + 1) + x).natAbs ≤ 2 ^ 56 + x.natAbs := fun x => by
        have z1 : (69621 * (c + 1)).natAbs ≤ 2 ^ 36 := by omega
        have z2 : (69621 * (c + 1) * (c + 1)).natAbs ≤ 2 ^ 36 * 2 ^ 19 := by
          rw [Int.natAbs_mul]
          exact Nat.mul_le_mul z1 hcb
        generalize 69621 * (c + 1) * (c + 1) = y at *
        omega
      refine ⟨_, rfl, .ref p, rfl, p, _, 2, .int (c + 1), rfl, rfl, .inl (.inl e2), atI_nat (j := 2) rfl, 69621, c + 1, rfl, rfl, cmul_of (show (69621 : Int).natAbs ≤ 2 ^ 17 by decide) hcb (by omega), .ref p, rfl, p, _, 2, .int (c + 1), rfl, rfl, .inl (.inl e2), atI_nat (j := 2) rfl,
        69621 * (c + 1), c + 1, rfl, rfl, cmul_of (show (69621 * (c + 1)).natAbs ≤ 2 ^ 36 by omega) hcb (by omega), _, _, rfl, rfl, .ref p, rfl, p, _, 1, .int b, rfl, rfl, .inl (.inl e2), atI_nat (j := 1) rfl, b, 65537, rfl, rfl, show (65537 : Int) ≠ 0 by decide, _, _, rfl, rfl, _, 3, rfl, rfl, ⟨by decide, by decide, ?_⟩, _, 2147483563, rfl, rfl, show (2147483563 : Int) ≠ 0 by decide, ?_⟩
      · have z1 : ∀ x y z : Int, x.natAbs ≤ 2 ^ 32 → y.natAbs ≤ 2 ^ 56 → z.natAbs ≤ 2 ^ 17 → (x + y + z).natAbs < 2 ^ 64 := fun x y z _ _ _ => by omega
        refine z1 _ _ _ (fm_bd (by decide) (by decide)) ?_ (fm_bd (by decide) (by decide))
        have := h3 0
        simpa using this
      refine ⟨_, rfl, _, 40692, rfl, rfl, cmul_of (fm_bd (n := 32) (by decide) (by decide)) (show (40692 : Int).natAbs ≤ 2 ^ 16 by decide) (by omega), _, 2147483549, rfl, rfl, show (2147483549 : Int) ≠ 0 by decide, _, 64, rfl, rfl, show (64 : Int) ≠ 0 by decide, .int m, rfl, _, m, rfl, rfl, by omega, ?_⟩
      exact fin _
theorem ok_pool {f : Addr} {fd : FuncData} {k : Nat} (F : Fun K "_law_pool" "_law_pool" sLpool f fd) (ml : mg "len" = none) (mx : mg "max" = none) : FnOk P w K mg base CX0 (k + 1) f fd ["_law_script", "_law_k"] (spPool K) := by
  refine F.ok scLpool (fun vs H Q E h => ?_) (fun cdv A outer s H vs Q E hr h => ?_)
  · obtain ⟨_, _, _, rfl, _⟩ := h
    rfl
  · obtain ⟨a, xs, kk, rfl, hA, hl, hk, q⟩ := h
    refine ⟨_, pss_cons (ps_set (i := 2) scLpool.nd rfl (.inl rfl) pe_int)
      (pss_cons (ps_if (pt_cmpR op_lt (pv 1) (pe_callB call_len_seq (by rfl) ml PySem.boot_len (pa_cons (pv 0) pa_nil)) (nomark _)) (pss_one (ps_set (i := 2) scLpool.nd rfl (.inl rfl) (pe_ix ix_list (pv 0) (pv 1) (fun _ _ => rfl)))) pss_nil)
      (pss_one (ps_ret (pe_lst (pa_cons (pe_callB (call_max2 rfl) (by rfl) mx (by decide +kernel) (pa_cons pe_int (pa_cons (pe_op op_sub (pv 2) (pe_op op_pow pe_int pe_int)) pa_nil))) (pa_cons (pe_op op_modN (pv 2) pe_int) (pa_cons (pe_op op_add (pe_op op_mulX pe_int (pv 1)) pe_int) pa_nil))))))), ?_⟩
    have fin : ∀ (x : Int) (y : Int), ∀ p, H p = none → Q (.ref p) (upd H p (.lst [.int y, .int (x.fmod 1000000007), .int (7919 * (kk : Int) + 1)])) := fun x y p hp => by
      obtain ⟨r0, r1⟩ := fm_lt (a := x) (b := 1000000007) (by decide)
      exact q _ p (same_upd hp) hp ⟨_, _, _, upd_same, r0, r1, by omega, by omega⟩
    have tail : ∀ x : Int, ∃ y, ∀ p, H p = none → Q (.ref p) (upd H p (.lst [.int y, .int (x.fmod 1000000007), .int (7919 * (kk : Int) + 1)])) := fun x => ⟨0, fun p hp => fin x 0 p hp⟩
    refine ⟨.int (kk : Int), rfl, .ref a, rfl, a, _, rfl, .inl hA, (kk : Int), ((xs.map V.int).length : Int), rfl, rfl, _, rfl, ite2 (fun h => ?_) (fun h => ?_)⟩
    · have hkl : kk < xs.length := by
        have := of_decide_eq_true h
        rw [List.length_map] at this
        omega
      refine ⟨.ref a, rfl, .int (kk : Int), rfl, a, _, (kk : Int), .int xs[kk], rfl, rfl, hA, atI_nat (by rw [List.getElem?_map, List.getElem?_eq_getElem hkl]; rfl), ?_⟩
      refine ⟨_, rfl, 10, 18, rfl, rfl, ⟨by decide, by decide, by decide⟩, _, _, rfl, rfl, _, _, rfl, .int xs[kk], rfl, xs[kk], 1000000007, rfl, rfl, show (1000000007 : Int) ≠ 0 by decide, .int (kk : Int), rfl, 7919, (kk : Int), rfl, rfl, cmul_of (show (7919 : Int).natAbs ≤ 2 ^ 13 by decide) (show (kk : Int).natAbs ≤ 2 ^ 4 by omega) (by omega), _, 1, rfl, rfl, by show 3 ≤ sizeLine; decide, fun p hp => fin _ _ p hp⟩
    · refine ⟨_, rfl, 10, 18, rfl, rfl, ⟨by decide, by decide, by decide⟩, _, _, rfl, rfl, _, _, rfl, .int 0, rfl, 0, 1000000007, rfl, rfl, show (1000000007 : Int) ≠ 0 by decide, .int (kk : Int), rfl, 7919, (kk : Int), rfl, rfl, cmul_of (show (7919 : Int).natAbs ≤ 2 ^ 13 by decide) (show (kk : Int).natAbs ≤ 2 ^ 4 by omega) (by omega), _, 1, rfl, rfl, by show 3 ≤ sizeLine; decide, fun p hp => fin _ _ p hp⟩
theorem ok_folded {f : Addr} {fd : FuncData} {k : Nat} (F : Fun K "_law_folded" "_law_folded" sLfolded f fd) (ml : mg "len" = none) (mx : mg "max" = none) (mn : mg "min" = none) (ms : mg "sum" = none) (mr : mg "range" = none) : FnOk P w K mg base CX0 (k + 1) f fd ["_law_script", "_law_most"] (spFolded K) := by
  refine F.ok scLfolded (fun vs H Q E h => ?_) (fun cdv A outer s H vs Q E hr h => ?_)
  · obtain ⟨_, _, rfl, _⟩ := h
    rfl
  · obtain ⟨a, xs, rfl, hA, hl, q⟩ := h
    refine ⟨_, pss_one (ps_ret (pe_lc (own := [("_law_k", 2)]) (g := gName 2) (tt := tYes) rfl scLfolded.nd (pi_range1 (by rfl) mr (pa_cons (pe_callB (call_max2 rfl) (by rfl) mx (by decide +kernel) (pa_cons pe_int (pa_cons (pe_callB (call_min2 rfl) (by rfl) mn (by decide +kernel) (pa_cons (pv 1) (pa_cons (pe_callB call_len_seq (by rfl) ml PySem.boot_len (pa_cons (pv 0) pa_nil)) pa_nil))) pa_nil))) pa_nil)) (blkOk_by (N := nLfolded) (sc := defScope sLfolded) (by decide +kernel))
        (fun _ _ _ _ _ => pg_name (i := 2) scLfolded.nd rfl (Or.inl rfl)) (fun _ _ _ _ _ => pts_nil)
        (fun _ _ _ _ _ => pe_callB (r := rSum K) (cr_sum rfl) (by rfl) ms (by decide +kernel) (pa_cons (pe_stepK (K := K) rfl (pv 0) (po_some (pv 2)) (po_some pe_int) (po_some (pv 1))) pa_nil)))), ?_⟩
    have hn : ∀ m : Int, (if m < 12 then m else 12) ≤ 12 := fun m => by split <;> omega
    refine ⟨.int 12, rfl, .ref a, rfl, a, _, rfl, .inl hA, 12, ((xs.map V.int).length : Int), rfl, 1, _, rfl, _, rfl, ?_, ?_, fun D hD => ?_⟩
    · split <;> omega
    · have := hn ((xs.map V.int).length : Int)
      split <;> omega
    have hj : ∃ n : Nat, (if (if ((xs.map V.int).length : Int) < 12 then ((xs.map V.int).length : Int) else 12) > 1 then (if ((xs.map V.int).length : Int) < 12 then ((xs.map V.int).length : Int) else 12) else 1).toNat = n ∧ 1 ≤ n ∧ n ≤ 12 := by
      have := hn ((xs.map V.int).length : Int)
      refine ⟨_, rfl, ?_, ?_⟩ <;> (split <;> omega)
    obtain ⟨n, en, n1, n12⟩ := hj
    rw [en]
    refine lc_by (goes_range H 0 n) hD (by omega) (fun i z _ => ∃ y, z = .int y) (fun _ _ _ _ _ h => h) (fun i v H3 hi s3 hacc it post hp => ?_) (fun H2 zs s2 eD hzl hz => ?_)
    · subst it
      exact ⟨rfl, .ref a, rfl, _, rfl, _, rfl, 63, rfl, _, rfl, 12, rfl, a, xs, rfl, s3.seq hA, (show (some (12 : Int)) ≠ some 0 by decide), fun p ms hp2 => ⟨p, ms, rfl, .inl (.inl upd_same), hp _ _ (same_upd hp2) ⟨_, rfl⟩⟩⟩
    · obtain ⟨ys, rfl⟩ := ints_ex zs hz
      rw [List.length_map] at hzl
      exact q H2 D ys s2 eD (by omega) (by omega)
theorem ok_number {f fT : Addr} {fd fdT : FuncData} {k : Nat} (F : Fun K "_law_number" "_law_number" sLnumber f fd) (FT : FnOk P w K mg base CX0 k fT fdT ["_law_pool_here", "_law_many"] spTake) (kT : PySem.W.keepIn K (.ref fT) = true) (bT : Binds K fdT ["_law_pool_here", "_law_many"] []) (gT : mg "_law_take" = some (.ref fT))
    (mr : mg "range" = none) : FnOk P w K mg base CX0 (k + 1) f fd ["_law_pool_here", "_law_size"] spNumber := by
  refine F.ok scLnumber (fun vs H Q E h => ?_) (fun cdv A outer s H vs Q E hr h => ?_)
  · obtain ⟨_, _, _, rfl, _⟩ := h
    rfl
  · obtain ⟨p, sz, n, rfl, hsz, hP, hn, q⟩ := h
    refine ⟨_, pss_cons (ps_set (i := 2) scLnumber.nd rfl (.inl rfl) (pe_call FT hr (by rfl) gT kT bT .nil pass0 (pa_cons (pv 0) (pa_cons pe_int pa_nil))))
      (pss_cons (ps_for PassesOwn.never rfl (pi_range1 (by rfl) mr (pa_cons (pv 1) pa_nil)) (pg_name (i := 3) scLnumber.nd rfl (Or.inl rfl))
        (pss_one (ps_set (i := 2) scLnumber.nd rfl (.inl rfl) (pe_op op_add (pe_op op_mulX (pv 2) (pe_op op_pow pe_int pe_int)) (pe_call FT hr (by rfl) gT kT bT .nil pass0 (pa_cons (pv 0) (pa_cons (pe_op op_pow pe_int pe_int) pa_nil)))))))
      (pss_one (ps_ret (pe_op op_mulX (pv 2) (pe_ix ix_list (pe_lst (pa_cons pe_int (pa_cons (pe_un un_neg pe_int) pa_nil))) (pe_call FT hr (by rfl) gT kT bT .nil pass0 (pa_cons (pv 0) (pa_cons pe_int pa_nil))) (fun _ _ => rfl)))))), ?_⟩
    refine ⟨.ref p, rfl, p, 10, n, rfl, by decide, hP, by omega, fun r H1 r0 r1 b1 P1 => ?_⟩
    refine ⟨.int (sz : Int), rfl, (sz : Int), rfl, by omega, by omega, ?_⟩
    rw [Int.toNat_natCast]
    refine for_range (fun i σ H' => ∃ (x : Int) (z3 : Option V), σ = [some (.ref p), some (.int (sz : Int)), some (.int x), z3] ∧ 0 ≤ x ∧ x < 10 * 1000000 ^ i ∧ i ≤ 3 ∧ But p H H' ∧ PoolAt H' p (n + 1 + i)) ⟨r, none, rfl, r0, by simpa using r1, by omega, b1, P1⟩ (fun i σ H' hi hP => ?_) (fun σ H' hP => ?_)
    · obtain ⟨x, z3, rfl, x0, x1, i3, b2, P2⟩ := hP
      have hpow := mil_le i i3
      have hx : x.natAbs ≤ 2 ^ 64 := by
        omega
      refine ⟨.int x, rfl, 10, 6, rfl, rfl, ⟨by decide, by decide, by decide⟩, x, _, rfl, rfl, cmul_of hx (show ((10 : Int) ^ (6 : Int).toNat).natAbs ≤ 2 ^ 20 by decide +kernel) (by omega), ?_⟩
      refine ⟨.ref p, rfl, 10, 6, rfl, rfl, ⟨by decide, by decide, by decide⟩, p, _, n + 1 + i, rfl, by decide, P2, by omega, fun r2 H2 q0 q1 b3 P3 => ?_⟩
      have e6 : (10 : Int) ^ (6 : Int).toNat = 1000000 := by decide +kernel
      rw [e6] at q1
      refine ⟨_, r2, rfl, rfl, _, _, rfl, ?_, ?_, by omega, b2.trans b3, P3⟩
      · have : x * (10 : Int) ^ (6 : Int).toNat = x * 1000000 := by rw [e6]
        omega
      · have : x * (10 : Int) ^ (6 : Int).toNat = x * 1000000 := by rw [e6]
        rw [Int.pow_succ]
        omega
    · obtain ⟨x, z3, rfl, x0, x1, i3, b2, P2⟩ := hP
      refine ⟨.int x, rfl, 1, rfl, by show 2 ≤ sizeLine; decide, fun l hl => ?_⟩
      have sl : Same H' (upd H' l (.lst [.int 1, .int (-1)])) := same_upd hl
      have el : (upd H' l (.lst [.int 1, .int (-1)])) l = some (.lst [.int 1, .int (-1)]) := upd_same
      have nlp : l ≠ p := by
        obtain ⟨_, _, _, e, _⟩ := P2
        exact (ne_of_none e hl).symm
      generalize upd H' l (.lst [.int 1, .int (-1)]) = H2 at *
      refine ⟨.ref p, rfl, p, 2, n + 1 + sz, rfl, by decide, P2.same sl, by omega, fun r2 H3 q0 q1 b3 P3 => ?_⟩
      have xb : (x.natAbs : Int) < 10 * 1000000 ^ sz := by omega
      have xb2 : x.natAbs < 10 * 1000000 ^ sz := by
        have e : ((10 * 1000000 ^ sz : Nat) : Int) = 10 * 1000000 ^ sz := by rw [Int.natCast_mul, Int.natCast_pow]; rfl
        rw [← e] at xb
        exact Int.ofNat_lt.mp xb
      have hpow : 1000000 ^ sz ≤ 1000000 ^ 3 := Nat.pow_le_pow_right (by decide) hsz
      have hx : x.natAbs ≤ 2 ^ 64 := by
        have e : 1000000 ^ 3 = 1000000000000000000 := by decide +kernel
        rw [e] at hpow
        omega
      have b4 : But p H H3 := (b2.trans (But.of sl)).trans b3
      have el3 := b3 l _ nlp el
      have hr2 : r2 = 0 ∨ r2 = 1 := by omega
      rcases hr2 with rfl | rfl
      · refine ⟨l, _, 0, .int 1, rfl, rfl, .inl (.inl el3), atI_nat (j := 0) rfl, x, 1, rfl, rfl, cmul_of hx (show (1 : Int).natAbs ≤ 2 ^ 1 by decide) (by omega), ?_⟩
        refine q (x * 1) H3 (by rw [Int.mul_one]; exact xb2) b4 (P3.up (by omega))
      · refine ⟨l, _, 1, .int (-1), rfl, rfl, .inl (.inl el3), atI_nat (j := 1) rfl, x, -1, rfl, rfl, cmul_of hx (show (-1 : Int).natAbs ≤ 2 ^ 1 by decide) (by omega), ?_⟩
        refine q (x * -1) H3 (by rw [Int.mul_neg, Int.mul_one, Int.natAbs_neg]; exact xb2) b4 (P3.up (by omega))
end
end CfW

namespace CfM
theorem run_all {w : Nat} {R : List (List Int)} (hR : Rows w R) (h8 : w ≤ 8) (hB : ∀ r ∈ R, RowB r) : ∀ (rs : List (List Int)) (k : Nat) (s : SS), R.drop k = rs → k ≤ R.length → Good w R k s → SB s →
    (∃ s', runS R.length k rs s = .inl s' ∧ Good w R R.length s' ∧ SB s') ∨ (∃ ws d, runS R.length k rs s = .inr (.rest ws d) ∧ RestOk w R ws d ∧ d ≤ 2 ^ DB)
  | [], k, s, e, hk, G, B => by
    have : k = R.length := by
      have := List.drop_eq_nil_iff.mp e
      omega
    subst this
    exact .inl ⟨s, rfl, G, B⟩
  | r :: rs, k, s, e, hk, G, B => by
    have hlt : k < R.length := by
      rcases Nat.lt_or_ge k R.length with z | z
      · exact z
      · rw [List.drop_of_length_le z] at e
        cases e
    have e2 := List.drop_eq_getElem_cons hlt
    rw [e] at e2
    injection e2 with e3 e4
    have er : r = row R k := by
      unfold row
      rw [List.getD_eq_getElem?_getD, List.getElem?_eq_getElem hlt, e3]
      rfl
    have RB := hB _ (row_mem hlt)
    unfold runS
    rw [er]
    rcases step_good hR hlt G with ⟨s', e1, G'⟩ | ⟨ws, d, e1, h⟩
    · have B' := step_sb hR h8 hlt G B RB e1
      rw [e1]
      exact run_all hR h8 hB rs (k + 1) s' e4.symm hlt G' B'
    · have hd := rest_small hR h8 hlt G B RB e1
      rw [e1]
      exact .inr ⟨ws, d, rfl, h, hd⟩
theorem settled_all {w : Nat} {R : List (List Int)} (hR : Rows w R) (h8 : w ≤ 8) (hB : ∀ r ∈ R, RowB r) : (∃ pt mv rd, settledM R w = .base pt mv rd ∧ BaseOk w R pt mv rd ∧ BaseB pt mv rd ∧ mv.length ≤ 8) ∨ (∃ ws d, settledM R w = .rest ws d ∧ RestOk w R ws d ∧ d ≤ 2 ^ DB) := by
  unfold settledM
  rcases run_all hR h8 hB R 0 (startS w) rfl (Nat.zero_le _) (start_good w R) (start_sb w) with ⟨s, e, G, B⟩ | ⟨ws, d, e, h, hd⟩
  · rw [e]
    exact .inl ⟨_, _, _, rfl, G.base, G.small h8 B, by rw [List.length_map]; have := G.len; omega⟩
  · rw [e]
    exact .inr ⟨ws, d, rfl, h, hd⟩
theorem elder_all {w : Nat} {R : List (List Int)} (hR : Rows w R) (h8 : w ≤ 8) (hB : ∀ r ∈ R, RowB r) {x : List Int} (hx : Holds R w x) : ∃ pt mv rd, settledM R w = .base pt mv rd ∧ BaseOk w R pt mv rd ∧ BaseB pt mv rd ∧ mv.length ≤ 8 ∧ spreadM pt mv (timesM pt rd x) = x := by
  obtain ⟨s, e, G, h⟩ := settled_elder hR hx
  rcases settled_all hR h8 hB with ⟨pt, mv, rd, e1, h1, h2, h3⟩ | ⟨ws, d, e1, _⟩
  · rw [e] at e1
    unfold endS at e1
    injection e1 with a b c
    subst a b c
    exact ⟨_, _, _, e, h1, h2, h3, h⟩
  · rw [e] at e1
    cases e1
end CfM
namespace CfW
open PySem PySem.Spec PyProof.Rows L2 CfX
abbrev nLcoefs : List Str := ["_law_pool_here", "_law_rows_here", "_law_wide", "_law_size", "_law_way", "_law_often", "_law_at", "_law_coef"]
theorem scLcoefs : FnScope nLcoefs ["_law_pool_here", "_law_rows_here", "_law_wide", "_law_size"] (defScope sLcoefs) := ⟨rfl, rfl, rfl, by decide +kernel, rfl, by decide +kernel, by decide +kernel⟩
abbrev nLrows : List Str := ["_law_cells", "_law_head", "_law_values", "_law_size", "_law_rows_here", "_law_k", "_law_coefs_here"]
theorem scLrows : FnScope nLrows ["_law_cells", "_law_head", "_law_values", "_law_size"] (defScope sLrows) := ⟨rfl, rfl, rfl, by decide +kernel, rfl, by decide +kernel, by decide +kernel⟩
/-- a new list of ints where each turn may change other things -/
theorem lc_inv {J : It} {H1 : Hp} {n : Nat} {g : TG} {te : TE} {vs : List Nat} {σ : L2.St} {D : Addr} {Qd : Hp → Prop} (hn : n ≤ 1000) (Rz : Nat → Int → Prop) (Iv : Nat → Hp → Prop) (h0 : Iv 0 H1) (iv : ∀ i H o, Iv i H → Iv i (upd H D o))
    (go : ∀ i H, i < n → Iv i H → J.go i H) (stop : ∀ H, Iv n H → J.stop n H) (hs : ∀ i v H H', i < n → Iv i H → J.yld i H v H' → (∃ acc, H D = some (.lst acc)) → ∀ post : VK, (∀ z H5, Rz i z → Iv (i + 1) H5 → (∀ acc, H D = some (.lst acc) → H5 D = some (.lst acc)) → post (.int z) H5) → g v (wipe σ vs) H' fun σ2 H4 => wipe σ2 vs = wipe σ vs ∧ te σ2 H4 post)
    (hd : ∀ H2 (zs : List Int), Iv n H2 → H2 D = some (.lst (zs.map V.int)) → zs.length = n → (∀ i z, zs[i]? = some z → Rz i z) → Qd H2) :
    ∃ W : Nat → Nat → Hp → Prop, (∃ m, W 0 m (upd H1 D (.lst []))) ∧ ∀ i m H, W i m H →
      (J.stop i H ∧ Qd H) ∨ (J.go i H ∧ ∃ Nx : Hp → Prop, (∀ H', Nx H' → ∃ m', m' < m ∧ W (i + 1) m' H') ∧ ∀ x H', J.yld i H x H' → g x (wipe σ vs) H' fun σ2 H2 => wipe σ2 vs = wipe σ vs ∧ tYes σ2 H2 fun k H3 =>
        if k = true then te σ2 H3 fun y H4 => ∃ acc, H4 D = some (.lst acc) ∧ acc.length < sizeLine ∧ Nx (upd H4 D (.lst (acc ++ [y]))) else Nx H3) := by
  refine ⟨fun i m H => m = n - i ∧ i ≤ n ∧ Iv i H ∧ ∃ zs : List Int, H D = some (.lst (zs.map V.int)) ∧ zs.length = i ∧ ∀ j z, zs[j]? = some z → Rz j z, ⟨n, rfl, Nat.zero_le _, iv _ _ _ h0, [], upd_same, rfl, fun j z h => by simp at h⟩, ?_⟩
  rintro i m H ⟨em, hi, hI, zs, eD, lz, rz⟩
  by_cases hlt : i < n
  · refine .inr ⟨go i H hlt hI, fun H' => Iv (i + 1) H' ∧ ∃ zs : List Int, H' D = some (.lst (zs.map V.int)) ∧ zs.length = i + 1 ∧ ∀ j z, zs[j]? = some z → Rz j z, fun H' h => ⟨n - (i + 1), by omega, rfl, hlt, h⟩, fun v H' y => ?_⟩
    refine hs i v H H' hlt hI y ⟨_, eD⟩ _ fun z H5 hz hI5 kept => ?_
    refine ⟨zs.map V.int, kept _ eD, by rw [List.length_map]; exact Nat.lt_of_le_of_lt (by omega) (small1000 hn), iv _ _ _ hI5, zs ++ [z], by rw [upd_same, List.map_append]; rfl, by rw [List.length_append, lz]; rfl, fun j y hj => ?_⟩
    rcases Nat.lt_or_ge j zs.length with hjl | hjl
    · rw [List.getElem?_append_left hjl] at hj
      exact rz j y hj
    · rw [List.getElem?_append_right hjl] at hj
      have ej : j = i := by
        rcases Nat.eq_zero_or_pos (j - zs.length) with q | q
        · omega
        · rw [List.getElem?_eq_none (by rw [List.length_singleton]; omega)] at hj
          cases hj
      subst ej
      rw [lz, Nat.sub_self] at hj
      cases hj
      exact hz
  · have ei : i = n := by omega
    subst ei
    exact .inl ⟨stop H hI, hd H zs hI eD lz rz⟩
/-- how great the coefs grow, row by row -/
def CB (j : Nat) : Nat := 3 ^ (min j 3) * 120000000
theorem CB_top (j : Nat) : CB j ≤ 2 ^ 40 := by
  unfold CB
  have h : 3 ^ (min j 3) ≤ 3 ^ 3 := Nat.pow_le_pow_right (by decide) (Nat.min_le_right _ _)
  have e : 3 ^ 3 = 27 := by decide
  rw [e] at h
  have : 3 ^ (min j 3) * 120000000 ≤ 27 * 120000000 := Nat.mul_le_mul_right _ h
  omega
theorem CB_one (j : Nat) : 120000000 ≤ CB j := by
  unfold CB
  have : 1 ≤ 3 ^ (min j 3) := Nat.pow_pos (by decide)
  have : 1 * 120000000 ≤ 3 ^ (min j 3) * 120000000 := Nat.mul_le_mul_right _ this
  omega
theorem CB_next {j n : Nat} (h : j < min 3 n) : 3 * CB j ≤ CB n := by
  unfold CB
  have e : min j 3 = j := by omega
  rw [e, ← Nat.mul_assoc]
  refine Nat.mul_le_mul_right _ ?_
  rw [Nat.mul_comm, ← Nat.pow_succ]
  exact Nat.pow_le_pow_right (by decide) (by omega)
def spCoefs : Sp := fun vs H Q _ => ∃ (p ra : Addr) (wd sz n : Nat) (ts : List Addr) (R : List (List Int)), vs = [.ref p, .ref ra, .int (wd : Int), .int (sz : Int)] ∧ wd ≤ 8 ∧ sz ≤ 1 ∧ PoolAt H p n ∧ n ≤ 150000 ∧ (H ra = some (.lst (ts.map V.ref)) ∧ ra ≠ p) ∧ Paired (fun t (v : List Int) => H t = some (.lst (v.map V.int))) ts R ∧ (∀ t ∈ ts, t ≠ p) ∧ R.length ≤ 100 ∧ CfM.Rows wd R ∧
  (∀ j, j < R.length → ∀ i, (CfM.g (CfM.row R j).tail i).natAbs ≤ CB j) ∧ ∀ H' l (xs : List Int), But p H H' → H l = none → H' l = some (.lst (xs.map V.int)) → xs.length = wd → (∀ i, (CfM.g xs i).natAbs ≤ CB R.length) → Q (.ref l) H'
theorem g_all {xs : List Int} {B : Nat} (h : ∀ (i : Nat) (z : Int), xs[i]? = some z → z.natAbs ≤ B) (i : Nat) : (CfM.g xs i).natAbs ≤ B := by
  unfold CfM.g
  rw [List.getD_eq_getElem?_getD]
  cases e : xs[i]? with
  | none => exact Nat.zero_le _
  | some z => exact h i z e
theorem none_but {p t : Addr} {H H' : Hp} {o : HO} (b : But p H H') (hp : H p = some o) (hp' : ∃ o', H' p = some o') (h : H' t = none) : H t = none := by
  by_cases e : t = p
  · obtain ⟨o', ho'⟩ := hp'
    rw [e, ho'] at h
    cases h
  · cases e2 : H t with
    | none => rfl
    | some x => rw [b t x e e2] at h; cases h
section
variable {P : Program} {w : World} {K : PySem.W.Frag} {mg : Str → Option Value} {base : Heap}
theorem ok_coefs {f fT fN : Addr} {fd fdT fdN : FuncData} {k : Nat} (F : Fun K "_law_coefs" "_law_coefs" sLcoefs f fd) (FT : FnOk P w K mg base CX0 k fT fdT ["_law_pool_here", "_law_many"] spTake) (kT : PySem.W.keepIn K (.ref fT) = true) (bT : Binds K fdT ["_law_pool_here", "_law_many"] []) (gT : mg "_law_take" = some (.ref fT))
    (FN : FnOk P w K mg base CX0 k fN fdN ["_law_pool_here", "_law_size"] spNumber) (kN : PySem.W.keepIn K (.ref fN) = true) (bN : Binds K fdN ["_law_pool_here", "_law_size"] []) (gN : mg "_law_number" = some (.ref fN))
    (mr : mg "range" = none) (ml : mg "len" = none) (mn : mg "min" = none) : FnOk P w K mg base CX0 (k + 1) f fd ["_law_pool_here", "_law_rows_here", "_law_wide", "_law_size"] spCoefs := by
  refine F.ok scLcoefs (fun vs H Q E h => ?_) (fun cdv A outer s H vs Q E hr h => ?_)
  · obtain ⟨_, _, _, _, _, _, _, rfl, _⟩ := h
    rfl
  · obtain ⟨p, ra, wd, sz, n, ts, R, rfl, h8, hsz, hP, hn, ⟨eR, nrp⟩, pR, noff, hRl, hR, hCB, q⟩ := h
    refine ⟨_, pss_cons (ps_set (i := 4) scLcoefs.nd rfl (.inl rfl) (pe_call FT hr (by rfl) gT kT bT .nil pass0 (pa_cons (pv 0) (pa_cons pe_int pa_nil))))
      (pss_cons (ps_if (pt_cmpR op_eq (pv 4) pe_int (nomark _)) (pss_one (ps_ret (pe_lc (own := [("_law_at", 6)]) (g := gName 6) (tt := tYes) rfl scLcoefs.nd (pi_range1 (by rfl) mr (pa_cons (pv 2) pa_nil)) (blkOk_by (N := nLcoefs) (sc := defScope sLcoefs) (by decide +kernel))
          (fun _ _ _ _ _ => pg_name (i := 6) scLcoefs.nd rfl (Or.inl rfl)) (fun _ _ _ _ _ => pts_nil) (fun _ _ _ _ _ => pe_int)))) pss_nil)
      (pss_cons (ps_if (PW.pt (pw_and (pt_cmpR op_eq (pv 4) pe_int (nomark _)) (pw_and1 (pt_cmpR op_gt (pe_callB call_len_seq (by rfl) ml PySem.boot_len (pa_cons (pv 1) pa_nil)) pe_int (nomark _)))))
          (pss_cons (ps_set (i := 5) scLcoefs.nd rfl (.inr rfl) (pe_op op_sub (pe_call FT hr (by rfl) gT kT bT .nil pass0 (pa_cons (pv 0) (pa_cons pe_int pa_nil))) pe_int))
          (pss_one (ps_ret (pe_lc (own := [("_law_coef", 7)]) (g := gName 7) (tt := tYes) rfl scLcoefs.nd
              (pi_list (pe_slice sl_list (pe_ix ix_list (pv 1) (pe_call FT hr (by rfl) gT kT bT .nil pass0 (pa_cons (pv 0) (pa_cons (pe_callB (call_min2 rfl) (by rfl) mn (by decide +kernel) (pa_cons pe_int (pa_cons (pe_callB call_len_seq (by rfl) ml PySem.boot_len (pa_cons (pv 1) pa_nil)) pa_nil))) pa_nil))) (fun _ _ => rfl)) (po_some pe_int) po_none)) (blkOk_by (N := nLcoefs) (sc := defScope sLcoefs) (by decide +kernel))
              (fun _ _ _ _ _ => pg_name (i := 7) scLcoefs.nd rfl (Or.inl rfl)) (fun _ _ _ _ _ => pts_nil) (fun _ _ _ _ _ => pe_op op_mulX (pv 5) (pv 7)))))) pss_nil)
      (pss_cons (ps_set (i := 5) scLcoefs.nd rfl (.inr rfl) pe_int)
      (pss_cons (ps_if (pt_cmpR op_lt (pv 4) pe_int (nomark _)) (pss_one (ps_set (i := 5) scLcoefs.nd rfl (.inr rfl) (pe_op op_add pe_int (pe_call FT hr (by rfl) gT kT bT .nil pass0 (pa_cons (pv 0) (pa_cons pe_int pa_nil)))))) pss_nil)
      (pss_one (ps_ret (pe_lc (own := [("_law_at", 6)]) (g := gName 6) (tt := tYes) rfl scLcoefs.nd (pi_range1 (by rfl) mr (pa_cons (pv 2) pa_nil)) (blkOk_by (N := nLcoefs) (sc := defScope sLcoefs) (by decide +kernel))
          (fun _ _ _ _ _ => pg_name (i := 6) scLcoefs.nd rfl (Or.inl rfl)) (fun _ _ _ _ _ => pts_nil)
          (fun _ _ _ _ _ => pe_op op_mulX (pv 5) (pe_call FN hr (by rfl) gN kN bN .nil pass0 (pa_cons (pv 0) (pa_cons (pv 3) pa_nil))))))))))), ?_⟩
    have lR := Paired.length pR
    obtain ⟨pa, pb, pc, ep, _⟩ := hP
    have hP : PoolAt H p n := ⟨pa, pb, pc, ep, by assumption⟩
    refine ⟨.ref p, rfl, p, 8, n, rfl, by decide, hP, by omega, fun way H1 w0 w1 b1 P1 => ?_⟩
    have live : ∀ {H' : Hp} {m : Nat}, PoolAt H' p m → ∃ o, H' p = some o := fun {H' m} h => by
      obtain ⟨_, _, _, e, _⟩ := h
      exact ⟨_, e⟩
    refine ⟨.int way, rfl, rfl, _, rfl, ?_⟩
    by_cases hw0 : way = 0
    · rw [decide_eq_true (by rw [hw0])]
      refine iteT ?_
      refine ⟨.int (wd : Int), rfl, (wd : Int), rfl, by omega, by omega, fun D hD => ?_⟩
      rw [Int.toNat_natCast]
      refine lc_rangeI (fun _ => 0) (by omega) hD (fun _ => rfl) (fun i H3 post hi s hp => hp) (fun H2 s2 eD => ?_)
      refine q H2 D _ (b1.trans (But.of s2)) (none_but b1 ep (live P1) hD) eD (by rw [List.length_map, List.length_range]) (g_all fun i z hz => ?_)
      rw [List.getElem?_map] at hz
      cases e : (List.range wd)[i]? with
      | none => rw [e] at hz; cases hz
      | some a => rw [e] at hz; cases hz; exact Nat.zero_le _
    · rw [decide_eq_false (fun z => hw0 (V.int.inj z))]
      refine iteF ?_
      have gen : ∀ (often : Int) (H2 : Hp) (m : Nat), often.natAbs ≤ 12 → But p H H2 → PoolAt H2 p m → m ≤ n + 3 → ∀ z4 z6 z7 : Option V, tRet (tLc (iRng1 (tCons (tVar 2) tNil)) (gName 6) tYes (tOp (rI CMulX fun i j => V.int (i * j)) (tVar 5) (tCall spNumber [] E0 (tCons (tVar 0) (tCons (tVar 3) tNil)))) ([6] : List Nat)) { nx := fun _ H' => Q .non H', rt := Q }
          [some (.ref p), some (.ref ra), some (.int (wd : Int)), some (.int (sz : Int)), z4, some (.int often), z6, z7] H2 := fun often H2 m ho b2 P2 hm z4 z6 z7 => by
        refine ⟨.int (wd : Int), rfl, (wd : Int), rfl, by omega, by omega, fun D hD => ?_⟩
        rw [Int.toNat_natCast]
        have nDp : D ≠ p := fun z => by
          obtain ⟨o, e⟩ := live P2
          rw [z, e] at hD
          cases hD
        refine lc_inv (n := wd) (by omega) (fun _ z => z.natAbs ≤ 120000000) (fun i H' => (∀ b o, b ≠ p → b ≠ D → H b = some o → H' b = some o) ∧ PoolAt H' p (m + 5 * i)) ⟨fun b o n1 _ e => b2 b o n1 e, P2⟩ (fun i H' o h => ⟨fun b x n1 n2 e => by rw [upd_ne n2]; exact h.1 b x n1 n2 e, ?_⟩) (fun i H' hi h => hi) (fun H' h => Nat.le_refl _) (fun i v H3 H4 hi hI y hacc post hp => ?_) (fun H3 zs hI eD hzl hz => ?_)
        · obtain ⟨_, a, b, c, e, r⟩ := h
          exact ⟨a, b, c, by rw [upd_ne (Ne.symm nDp)]; exact e, r⟩
        · obtain ⟨rfl, rfl⟩ := y
          refine ⟨rfl, .int often, rfl, .ref p, rfl, .int (sz : Int), rfl, p, sz, m + 5 * i, rfl, by omega, hI.2, by omega, fun x H5 hx b5 P5 => ?_⟩
          have hx2 : x.natAbs < 10000000 := by
            have e : 1000000 ^ sz ≤ 1000000 ^ 1 := Nat.pow_le_pow_right (by decide) hsz
            omega
          refine ⟨often, x, rfl, rfl, cmul_of (show often.natAbs ≤ 2 ^ 4 by omega) (show x.natAbs ≤ 2 ^ 24 by omega) (by omega), ?_⟩
          refine hp (often * x) H5 ?_ ⟨fun b o n1 n2 e => b5 b o n1 (hI.1 b o n1 n2 e), P5.up (by omega)⟩ (fun acc e => b5 _ _ nDp e)
          rw [Int.natAbs_mul]
          have : often.natAbs * x.natAbs ≤ 12 * 10000000 := Nat.mul_le_mul ho (by omega)
          omega
        · have hD0 : H D = none := none_but b2 ep (live P2) hD
          refine q H3 D zs (fun b o n1 e => hI.1 b o n1 (ne_of_none e hD0) e) hD0 eD hzl (g_all fun i z h => Nat.le_trans (hz i z h) (CB_one _))
      have eR1 := b1 _ _ nrp eR
      have hlenI : ((ts.map V.ref).length : Int) = (R.length : Int) := by rw [List.length_map, lR]
      by_cases hw1 : way = 1 ∧ 0 < R.length
      · obtain ⟨hw1, hpos⟩ := hw1
        refine ⟨.int way, rfl, rfl, _, rfl, ?_⟩
        rw [decide_eq_true (by rw [hw1])]
        refine iteT ⟨.ref ra, rfl, ra, _, rfl, .inl (.inl (.inl eR1)), ((ts.map V.ref).length : Int), 0, rfl, rfl, _, rfl, ?_⟩
        rw [decide_eq_true (by omega)]
        refine iteT ?_
        refine ⟨.ref p, rfl, p, 7, n + 1, rfl, by decide, P1, by omega, fun r2 H2 q0 q1 b2 P2 => ?_⟩
        refine ⟨r2, 3, rfl, rfl, ?_⟩
        have b02 := b1.trans b2
        have eR2 := b02 _ _ nrp eR
        refine ⟨.ref ra, rfl, .ref p, rfl, .ref ra, rfl, ra, _, rfl, .inl (.inl (.inl eR2)), 3, ((ts.map V.ref).length : Int), rfl, ?_⟩
        refine ⟨p, _, n + 1 + 1, rfl, by split <;> omega, P2, by omega, fun r3 H3 t0 t1 b3 P3 => ?_⟩
        have b03 := b02.trans b3
        have hr3 : r3.toNat < R.length ∧ r3.toNat < min 3 R.length := by
          have : r3 < 3 ∧ r3 < (R.length : Int) := by
            rw [hlenI] at t1
            split at t1 <;> omega
          omega
        have hj := hr3.1
        have er3 : r3 = ((r3.toNat : Nat) : Int) := by omega
        generalize r3.toNat = j at *
        subst er3
        obtain ⟨t, et, ett⟩ := mat_row pR hj
        have htm : t ∈ ts := List.mem_of_getElem? et
        have et3 := b03 t _ (noff t htm) ett
        have hrj := hR.each _ (CfM.row_mem hj)
        have hcb := hCB j hj
        cases er : CfM.row R j with
        | nil => rw [er] at hrj; simp at hrj
        | cons c cs =>
          rw [er] at et3 hrj hcb
          have hcs : cs.length = wd := by simpa using hrj
          have hcb : ∀ i, (CfM.g cs i).natAbs ≤ CB j := hcb
          rw [List.map_cons] at et3
          refine ⟨ra, _, (j : Int), .ref t, rfl, rfl, .inl (.inl (b03 _ _ nrp eR)), atI_nat (by rw [List.getElem?_map, et]; rfl), 1, rfl, t, _, rfl, .inl (.inl et3), fun co hco => ?_⟩
          rw [cut_tail]
          have sco : Same H3 (upd H3 co (.lst (cs.map V.int))) := same_upd hco
          have eco : (upd H3 co (.lst (cs.map V.int))) co = some (.lst (cs.map V.int)) := upd_same
          have P4 := P3.same sco
          have b04 := b03.trans (But.of sco)
          generalize upd H3 co (.lst (cs.map V.int)) = H4 at *
          refine ⟨co, rfl, ⟨_, .inl (.inl eco)⟩, fun D hD => ?_⟩
          refine lc_mapI (goes_list (K := K) (.inl (.inl eco))) (fun x => (r2 - 3) * x) (by omega) hD (fun _ => rfl) (fun i x H5 post ex s5 hp => ?_) (fun H5 s5 eD => ?_)
          · have b := hcb i
            rw [g_some ex] at b
            exact ⟨.int (r2 - 3), rfl, .int x, rfl, r2 - 3, x, rfl, rfl, cmul_of (show (r2 - 3).natAbs ≤ 2 ^ 2 by omega) (Nat.le_trans b (CB_top j)) (by omega), hp⟩
          · refine q H5 D _ (b04.trans (But.of s5)) (none_but b04 ep (live P4) hD) eD (by rw [List.length_map]; exact hcs) (g_all fun i z hz => ?_)
            rw [List.getElem?_map] at hz
            cases e : cs[i]? with
            | none => rw [e] at hz; cases hz
            | some a =>
              rw [e] at hz
              have hz : (r2 - 3) * a = z := Option.some.inj hz
              have b := hcb i
              rw [g_some e] at b
              rw [← hz, Int.natAbs_mul]
              have h3 : (r2 - 3).natAbs * a.natAbs ≤ 3 * CB j := Nat.mul_le_mul (by omega) b
              exact Nat.le_trans h3 (CB_next hr3.2)
      · refine ⟨.int way, rfl, rfl, _, rfl, ?_⟩
        by_cases hw2 : way = 1
        · rw [decide_eq_true (by rw [hw2])]
          refine iteT ⟨.ref ra, rfl, ra, _, rfl, .inl (.inl (.inl eR1)), ((ts.map V.ref).length : Int), 0, rfl, rfl, _, rfl, ?_⟩
          have hz : ¬ 0 < R.length := fun z => hw1 ⟨hw2, z⟩
          rw [decide_eq_false (by omega)]
          refine iteF ?_
          refine ⟨.int way, rfl, way, 4, rfl, rfl, _, rfl, ite2 (fun h => ?_) (fun h => ?_)⟩
          · exact ⟨.ref p, rfl, p, 11, n + 1, rfl, by decide, P1, by omega, fun r H2 r0 r1 b2 P2 => ⟨2, r, rfl, rfl, gen (2 + r) H2 _ (by omega) (b1.trans b2) P2 (by omega) _ _ _⟩⟩
          · exact gen 1 H1 _ (by decide) b1 P1 (by omega) _ _ _
        · rw [decide_eq_false (fun z => hw2 (V.int.inj z))]
          refine iteF (iteF ?_)
          refine ⟨.int way, rfl, way, 4, rfl, rfl, _, rfl, ite2 (fun h => ?_) (fun h => ?_)⟩
          · exact ⟨.ref p, rfl, p, 11, n + 1, rfl, by decide, P1, by omega, fun r H2 r0 r1 b2 P2 => ⟨2, r, rfl, rfl, gen (2 + r) H2 _ (by omega) (b1.trans b2) P2 (by omega) _ _ _⟩⟩
          · exact gen 1 H1 _ (by decide) b1 P1 (by omega) _ _ _
end
end CfW

namespace CfW
open PySem PySem.Spec PyProof.Rows L2 CfX
/-- what the rows of the law keep -/
structure RowsOk (wd : Nat) (R : List (List Int)) (vals : List Int) : Prop where
  rows : CfM.Rows wd R
  coef : ∀ j, j < R.length → ∀ i, (CfM.g (CfM.row R j).tail i).natAbs ≤ CB j
  const : ∀ r ∈ R, (CfM.g r 0).natAbs ≤ 2 ^ 70
  at_ : ∀ j, j < R.length → CfM.ent R j 0 + CfM.dot (CfM.cf R j) vals = 0
theorem RowsOk.rowB {wd : Nat} {R : List (List Int)} {vals : List Int} (h : RowsOk wd R vals) : ∀ r ∈ R, CfM.RowB r := fun r hr => by
  obtain ⟨j, hj, rfl⟩ := CfM.row_at hr
  exact ⟨fun i => Nat.le_trans (h.coef j hj i) (CB_top j), Nat.le_trans (h.const _ hr) (Nat.pow_le_pow_right (by decide) (by decide))⟩
theorem rows_nil (wd : Nat) (vals : List Int) : RowsOk wd [] vals := ⟨⟨(fun _ h => nomatch h)⟩, fun j h => absurd h (Nat.not_lt_zero j), (fun _ h => nomatch h), fun j h => absurd h (Nat.not_lt_zero j)⟩
theorem row_app {R : List (List Int)} {r : List Int} {j : Nat} (h : j < R.length) : CfM.row (R ++ [r]) j = CfM.row R j := by
  unfold CfM.row
  rw [List.getD_eq_getElem?_getD, List.getD_eq_getElem?_getD, List.getElem?_append_left h]
theorem row_end {R : List (List Int)} {r : List Int} : CfM.row (R ++ [r]) R.length = r := by
  unfold CfM.row
  rw [List.getD_eq_getElem?_getD, List.getElem?_append_right (Nat.le_refl _), Nat.sub_self]
  rfl
theorem RowsOk.snoc {wd : Nat} {R : List (List Int)} {vals xs : List Int} (h : RowsOk wd R vals) (hx : xs.length = wd) (hc : ∀ i, (CfM.g xs i).natAbs ≤ CB R.length) (hd : (0 - CfM.dot xs vals).natAbs ≤ 2 ^ 70) : RowsOk wd (R ++ [(0 - CfM.dot xs vals) :: xs]) vals := by
  refine ⟨⟨fun r hr => ?_⟩, fun j hj i => ?_, fun r hr => ?_, fun j hj => ?_⟩
  · rcases List.mem_append.mp hr with z | z
    · exact h.rows.each r z
    · rw [List.mem_singleton.mp z, List.length_cons, hx]
  · rw [List.length_append, List.length_singleton] at hj
    by_cases e : j < R.length
    · rw [row_app e]
      exact h.coef j e i
    · have e2 : j = R.length := by omega
      subst e2
      rw [row_end]
      exact hc i
  · rcases List.mem_append.mp hr with z | z
    · exact h.const r z
    · rw [List.mem_singleton.mp z]
      exact hd
  · rw [List.length_append, List.length_singleton] at hj
    unfold CfM.ent CfM.cf
    by_cases e : j < R.length
    · rw [row_app e]
      exact h.at_ j e
    · have e2 : j = R.length := by omega
      subst e2
      rw [row_end]
      show 0 - CfM.dot xs vals + CfM.dot xs vals = 0
      omega
theorem dot_small {xs vals : List Int} {wd n : Nat} (h8 : wd ≤ 8) (hx : xs.length = wd) (hc : ∀ i, (CfM.g xs i).natAbs ≤ CB n) (hv : ∀ i, (CfM.g vals i).natAbs ≤ 10000000) : (0 - CfM.dot xs vals).natAbs ≤ 2 ^ 70 := by
  have z := CfM.dot_bd (u := xs) (v := vals) (.inl hx) h8 (fun i => Nat.le_trans (hc i) (CB_top n)) hv
  omega
def spRows : Sp := fun vs H Q _ => ∃ (ca hd va : Addr) (cells vals : List Int) (sz n wd : Nat), vs = [.ref ca, .ref hd, .ref va, .int (sz : Int)] ∧ H ca = some (.lst (cells.map V.int)) ∧ cells.length ≤ 12 ∧ PoolAt H hd n ∧ n ≤ 200000 ∧ H va = some (.lst (vals.map V.int)) ∧ vals.length = wd ∧ wd ≤ 8 ∧ (∀ i, (CfM.g vals i).natAbs ≤ 10000000) ∧ sz ≤ 1 ∧
  ∀ H' l (ts : List Addr) (R : List (List Int)), But hd H H' → H l = none → H' l = some (.lst (ts.map V.ref)) → Paired (fun t (v : List Int) => H' t = some (.lst (v.map V.int))) ts R → (∀ t ∈ ts, H t = none) → RowsOk wd R vals → R.length ≤ 12 → PoolAt H' hd (n + 1) → Q (.ref l) H'
section
variable {P : Program} {w : World} {K : PySem.W.Frag} {mg : Str → Option Value} {base : Heap}
theorem ok_lrows {f fC fP fD fT : Addr} {fd fdC fdP fdD fdT : FuncData} {k : Nat} (F : Fun K "_law_rows" "_law_rows" sLrows f fd)
    (FC : FnOk P w K mg base CX0 k fC fdC ["_law_pool_here", "_law_rows_here", "_law_wide", "_law_size"] spCoefs) (kC : PySem.W.keepIn K (.ref fC) = true) (bC : Binds K fdC ["_law_pool_here", "_law_rows_here", "_law_wide", "_law_size"] []) (gC : mg "_law_coefs" = some (.ref fC))
    (FP : FnOk P w K mg base CX0 k fP fdP ["_law_script", "_law_k"] (spPool K)) (kP : PySem.W.keepIn K (.ref fP) = true) (bP : Binds K fdP ["_law_script", "_law_k"] []) (gP : mg "_law_pool" = some (.ref fP))
    (FD : FnOk P w K mg base CX0 k fD fdD ["_law_one", "_law_other"] (spDot K)) (kD : PySem.W.keepIn K (.ref fD) = true) (bD : Binds K fdD ["_law_one", "_law_other"] []) (gD : mg "_law_dot" = some (.ref fD))
    (FT : FnOk P w K mg base CX0 k fT fdT ["_law_pool_here", "_law_many"] spTake) (kT : PySem.W.keepIn K (.ref fT) = true) (bT : Binds K fdT ["_law_pool_here", "_law_many"] []) (gT : mg "_law_take" = some (.ref fT))
    (mr : mg "range" = none) (ml : mg "len" = none) : FnOk P w K mg base CX0 (k + 1) f fd ["_law_cells", "_law_head", "_law_values", "_law_size"] spRows := by
  refine F.ok scLrows (fun vs H Q E h => ?_) (fun cdv A outer s H vs Q E hr h => ?_)
  · obtain ⟨_, _, _, _, _, _, _, _, rfl, _⟩ := h
    rfl
  · obtain ⟨ca, hd, va, cells, vals, sz, n, wd, rfl, eCa, hcl, hP, hn, eVa, hvl, h8, hvb, hsz, q⟩ := h
    refine ⟨_, pss_cons (ps_set (i := 4) scLrows.nd rfl (.inl rfl) (pe_lst pa_nil))
      (pss_cons (ps_for PassesOwn.never rfl (pi_range2 (by rfl) mr (pa_cons pe_int (pa_cons (pe_callB call_len_seq (by rfl) ml PySem.boot_len (pa_cons (pv 0) pa_nil)) pa_nil))) (pg_name (i := 5) scLrows.nd rfl (Or.inl rfl))
        (pss_cons (ps_set (i := 6) scLrows.nd rfl (.inl rfl) (pe_call FC hr (by rfl) gC kC bC .nil pass0 (pa_cons (pe_call FP hr (by rfl) gP kP bP .nil pass0 (pa_cons (pv 0) (pa_cons (pv 5) pa_nil))) (pa_cons (pv 4) (pa_cons (pe_callB call_len_seq (by rfl) ml PySem.boot_len (pa_cons (pv 2) pa_nil)) (pa_cons (pv 3) pa_nil))))))
        (pss_one (ps_expr (pe_bm PySem.F.plainAttrs_list PySem.F.slot_list_append PySem.F.type_list_append mt_append (pv 4) (pa_cons (pe_op op_cat (pe_lst (pa_cons (pe_op op_sub pe_int (pe_call FD hr (by rfl) gD kD bD .nil pass0 (pa_cons (pv 6) (pa_cons (pv 2) pa_nil)))) pa_nil)) (pv 6)) pa_nil))))))
      (pss_cons (ps_if (PW.pt (pw_and (pt_cmpR op_gt (pe_callB call_len_seq (by rfl) ml PySem.boot_len (pa_cons (pv 4) pa_nil)) pe_int (nomark _)) (pw_and1 (pt_cmpR op_eq (pe_call FT hr (by rfl) gT kT bT .nil pass0 (pa_cons (pv 1) (pa_cons pe_int pa_nil))) pe_int (nomark _)))))
        (pss_one (ps_set (i := 4) scLrows.nd rfl (.inl rfl) (pe_lst pa_nil))) pss_nil)
      (pss_one (ps_ret (pv 4))))), ?_⟩
    refine ⟨Nat.zero_le _, fun l hl => ?_⟩
    have s1 : Same H (upd H l (.lst [])) := same_upd hl
    have el : (upd H l (.lst [])) l = some (.lst []) := upd_same
    generalize upd H l (.lst []) = H1 at *
    refine ⟨.ref ca, rfl, ca, _, rfl, .inl (.inl (.inl (s1 _ _ eCa))), 1, ((cells.map V.int).length : Int), rfl, ⟨by omega, by omega, by omega, by rw [List.length_map]; omega⟩, ?_⟩
    have en : ((((cells.map V.int).length : Int) - 1).toNat) = cells.length - 1 := by rw [List.length_map]; omega
    rw [en]
    refine for_range (fun i σ H' => ∃ (ts : List Addr) (R : List (List Int)) (z5 z6 : Option V), σ = [some (.ref ca), some (.ref hd), some (.ref va), some (.int (sz : Int)), some (.ref l), z5, z6] ∧ Same H H' ∧ H' l = some (.lst (ts.map V.ref)) ∧ Paired (fun t (v : List Int) => H' t = some (.lst (v.map V.int))) ts R ∧ (∀ t ∈ ts, H t = none ∧ t ≠ l) ∧ RowsOk wd R vals ∧ R.length = i)
      ⟨[], [], _, _, rfl, s1, el, .nil, (fun _ h => nomatch h), rows_nil wd vals, rfl⟩ (fun i σ H' hi hP' => ?_) (fun σ H' hP' => ?_)
    · obtain ⟨ts, R, z5, z6, rfl, sm, el', pR, off, ok, hRl⟩ := hP'
      have lR := Paired.length pR
      refine ⟨.ref ca, rfl, .int (1 + (i : Int)), rfl, ca, cells, i + 1, by rw [Int.natCast_add, Int.add_comm]; rfl, .inl (.inl (sm _ _ eCa)), by omega, by omega, fun H2 p s2 hp P2 => ?_⟩
      have s02 := sm.trans s2
      have nlp : l ≠ p := ne_of_none el' hp
      have eVa2 := s02 _ _ eVa
      refine ⟨.ref l, rfl, .ref va, rfl, va, _, rfl, .inl (.inl (.inl eVa2)), .int (sz : Int), rfl, ?_⟩
      refine ⟨p, l, wd, sz, 100000, ts, R, by rw [List.length_map, hvl]; rfl, h8, hsz, P2, by decide, ⟨s2 _ _ el', nlp⟩, mat_same s2 pR, fun t ht => ?_, by omega, ok.rows, ok.coef, fun H3 co xs b3 hco eco hxl hxb => ?_⟩
      · obtain ⟨v, e⟩ := paired_mem pR ht
        exact ne_of_none e hp
      have s03 : Same H' H3 := fun x o e => b3 x o (ne_of_none e hp) (s2 _ _ e)
      have s3 := sm.trans s03
      have eVa3 := s3 _ _ eVa
      have el3 := s03 _ _ el'
      have hds := dot_small h8 hxl hxb hvb
      refine ⟨.ref l, rfl, .inl ⟨rfl, _, .inl (.inl el3)⟩, .ref co, rfl, .ref va, rfl, false, false, co, va, xs, vals, rfl, .inl (.inl eco), .inl (.inl eVa3), by omega, fun m x y ex ey => ?_, fun H4 s4 => ?_⟩
      · have b1 := hxb m
        have b2 := hvb m
        rw [g_some ex] at b1
        rw [g_some ey] at b2
        exact cmul_of (Nat.le_trans b1 (CB_top _)) (show y.natAbs ≤ 2 ^ 24 by omega) (by omega)
      refine ⟨0, CfM.dot xs vals, rfl, rfl, by show 1 ≤ sizeLine; decide, fun a ha => ?_⟩
      have s5 : Same H4 (upd H4 a (.lst [.int (0 - CfM.dot xs vals)])) := same_upd ha
      have ea : (upd H4 a (.lst [.int (0 - CfM.dot xs vals)])) a = some (.lst [.int (0 - CfM.dot xs vals)]) := upd_same
      refine ⟨.ref co, rfl, a, co, _, _, rfl, rfl, ea, s5 _ _ (s4 _ _ eco), by rw [List.length_map, List.length_singleton]; exact Nat.le_of_lt (small1000 (by omega)), fun b hb => ?_⟩
      generalize upd H4 a (.lst [.int (0 - CfM.dot xs vals)]) = H5 at *
      have s6 : Same H5 (upd H5 b (.lst ([V.int (0 - CfM.dot xs vals)] ++ xs.map V.int))) := same_upd hb
      have eb : (upd H5 b (.lst ([V.int (0 - CfM.dot xs vals)] ++ xs.map V.int))) b = some (.lst (((0 - CfM.dot xs vals) :: xs).map V.int)) := upd_same
      generalize upd H5 b (.lst ([V.int (0 - CfM.dot xs vals)] ++ xs.map V.int)) = H6 at *
      have s36 := (s4.trans s5).trans s6
      have el6 := s36 _ _ el3
      have hb0 : H b = none := none_of (s3.trans (s4.trans s5)) hb
      have nbl : b ≠ l := fun z => by
        rw [z, (s4.trans s5) _ _ el3] at hb
        cases hb
      refine ⟨l, _, _, rfl, rfl, el6, by rw [List.length_map]; exact small1000 (by omega), ?_⟩
      refine ⟨ts ++ [b], R ++ [(0 - CfM.dot xs vals) :: xs], _, _, rfl, same_own (s3.trans s36) hl, by rw [upd_same, List.map_append]; rfl, paired_snoc (mat_move pR fun t v ht e => ?_) ?_, fun t ht => ?_, ok.snoc hxl hxb hds, by rw [List.length_append, hRl]; rfl⟩
      · rw [upd_ne (off t ht).2]
        exact s36 _ _ (s03 _ _ e)
      · rw [upd_ne nbl]
        exact eb
      · rcases List.mem_append.mp ht with z | z
        · exact off t z
        · rw [List.mem_singleton.mp z]
          exact ⟨hb0, nbl⟩
    · obtain ⟨ts, R, z5, z6, rfl, sm, el', pR, off, ok, hRl⟩ := hP'
      have lR := Paired.length pR
      refine ⟨.ref l, rfl, l, _, rfl, .inl (.inl (.inl el')), ((ts.map V.ref).length : Int), 0, rfl, rfl, _, rfl, ?_⟩
      by_cases hpos : 0 < ((ts.map V.ref).length : Int)
      · rw [decide_eq_true hpos]
        refine iteT ⟨.ref hd, rfl, hd, 9, n, rfl, by decide, hP.same sm, by omega, fun r H2 r0 r1 b2 P2 => ⟨rfl, _, rfl, ?_⟩⟩
        have nlh : l ≠ hd := fun z => by
          obtain ⟨_, _, _, e, _⟩ := hP
          rw [z, e] at hl
          cases hl
        have b02 : But hd H H2 := fun x o ne e => b2 x o ne (sm x o e)
        refine ite2 (fun h => ?_) (fun h => ?_)
        · refine ⟨Nat.zero_le _, fun l2 hl2 => ?_⟩
          have hl20 : H l2 = none := by
            cases e : H l2 with
            | none => rfl
            | some o =>
              by_cases e2 : l2 = hd
              · obtain ⟨_, _, _, e3, _⟩ := P2
                rw [e2, e3] at hl2
                cases hl2
              · rw [b02 _ _ e2 e] at hl2
                cases hl2
          exact ⟨.ref l2, rfl, q _ l2 [] [] (b02.trans (But.of (same_upd hl2))) hl20 upd_same .nil (fun _ h => nomatch h) (rows_nil wd vals) (by decide) (P2.same (same_upd hl2))⟩
        · refine ⟨.ref l, rfl, q H2 l ts R b02 hl (b2 _ _ nlh el') (mat_move pR fun t v ht e => b2 _ _ (fun z => ?_) e) (fun t ht => (off t ht).1) ok (by omega) P2⟩
          obtain ⟨_, _, _, e3, _⟩ := hP
          have := (off t ht).1
          rw [z, e3] at this
          cases this
      · rw [decide_eq_false hpos]
        refine iteF (iteF ⟨.ref l, rfl, q H' l ts R (But.of sm) hl el' pR (fun t ht => (off t ht).1) ok (by omega) ((hP.same sm).up (by omega))⟩)
end
end CfW

namespace CfW
open PySem PySem.Spec PyProof.Rows L2 CfX
theorem seq_split {t1 t2 : TS} {D : Ends} {σ : L2.St} {H : Hp} (C : L2.St → Hp → Prop) (hr : ∀ σ' H', C σ' H' → t2 D σ' H') (h : ∀ nx : L2.St → Hp → Prop, (∀ σ' H', C σ' H' → nx σ' H') → t1 { D with nx := nx } σ H) : tSeq t1 t2 D σ H := h _ hr
/-- a new list of new objects, no two of them one -/
theorem lc_matN {J : It} {H1 : Hp} {n : Nat} {Item : Nat → V → Hp → Prop} (obj : List Int → HO) (G : GoesBy J H1 n Item) {g : TG} {te : TE} {vs : List Nat} {σ : L2.St} {D : Addr} {Qd : Hp → Prop} (hD : H1 D = none) (hn : n ≤ 1000) (M : List (List Int)) (hM : M.length = n)
    (hs : ∀ i v H3, i < n → Same H1 H3 → Item i v H3 → ∀ post : VK, (∀ t H5, Same H3 H5 → H3 t = none → H5 t = some (obj (CfM.row M i)) → post (.ref t) H5) → g v (wipe σ vs) H3 fun σ2 H4 => wipe σ2 vs = wipe σ vs ∧ te σ2 H4 post)
    (hd : ∀ H2 (ts : List Addr), Same H1 H2 → H2 D = some (.lst (ts.map V.ref)) → Paired (fun t (v : List Int) => H2 t = some (obj v)) ts M → ts.Nodup → D ∉ ts → (∀ t ∈ ts, H1 t = none) → Qd H2) :
    ∃ W : Nat → Nat → Hp → Prop, (∃ m, W 0 m (upd H1 D (.lst []))) ∧ ∀ i m H, W i m H →
      (J.stop i H ∧ Qd H) ∨ (J.go i H ∧ ∃ Nx : Hp → Prop, (∀ H', Nx H' → ∃ m', m' < m ∧ W (i + 1) m' H') ∧ ∀ x H', J.yld i H x H' → g x (wipe σ vs) H' fun σ2 H2 => wipe σ2 vs = wipe σ vs ∧ tYes σ2 H2 fun k H3 =>
        if k = true then te σ2 H3 fun y H4 => ∃ acc, H4 D = some (.lst acc) ∧ acc.length < sizeLine ∧ Nx (upd H4 D (.lst (acc ++ [y]))) else Nx H3) := by
  refine ⟨fun i m H => m = n - i ∧ i ≤ n ∧ Same H1 H ∧ ∃ ts : List Addr, H D = some (.lst (ts.map V.ref)) ∧ ts.length = i ∧ (∀ j t, ts[j]? = some t → t ≠ D ∧ H t = some (obj (CfM.row M j)) ∧ H1 t = none) ∧ ts.Nodup, ⟨n, rfl, Nat.zero_le _, same_upd hD, [], upd_same, rfl, fun j t h => by simp at h, List.nodup_nil⟩, ?_⟩
  rintro i m H ⟨em, hi, s, ts, eD, lt, rt, nd⟩
  by_cases hlt : i < n
  · refine .inr ⟨G.go i H hlt s, fun H' => Same H1 H' ∧ ∃ ts : List Addr, H' D = some (.lst (ts.map V.ref)) ∧ ts.length = i + 1 ∧ (∀ j t, ts[j]? = some t → t ≠ D ∧ H' t = some (obj (CfM.row M j)) ∧ H1 t = none) ∧ ts.Nodup, fun H' h => ⟨n - (i + 1), by omega, rfl, hlt, h⟩, fun v H' y => ?_⟩
    obtain ⟨s2, it⟩ := G.yld i H v H' hlt s y
    refine hs i v H' hlt (s.trans s2) it _ fun t H5 s3 ht eo => ?_
    have e5 : H5 D = some (.lst (ts.map V.ref)) := s3 _ _ (s2 _ _ eD)
    have ntD : t ≠ D := (ne_of_none (s2 _ _ eD) ht).symm
    have ht1 : H1 t = none := none_of (s.trans s2) ht
    refine ⟨ts.map V.ref, e5, by rw [List.length_map]; exact Nat.lt_of_le_of_lt (by omega) (small1000 hn), same_own ((s.trans s2).trans s3) hD, ts ++ [t], by rw [upd_same, List.map_append]; rfl, by rw [List.length_append, lt]; rfl, fun j u hj => ?_, ?_⟩
    · rcases Nat.lt_or_ge j ts.length with hjl | hjl
      · rw [List.getElem?_append_left hjl] at hj
        obtain ⟨a, b, c⟩ := rt j u hj
        exact ⟨a, by rw [upd_ne a]; exact s3 _ _ (s2 _ _ b), c⟩
      · rw [List.getElem?_append_right hjl] at hj
        have ej : j = i := by
          rcases Nat.eq_zero_or_pos (j - ts.length) with q | q
          · omega
          · rw [List.getElem?_eq_none (by rw [List.length_singleton]; omega)] at hj
            cases hj
        subst ej
        rw [lt, Nat.sub_self] at hj
        cases hj
        exact ⟨ntD, by rw [upd_ne ntD]; exact eo, ht1⟩
    · rw [List.nodup_append]
      refine ⟨nd, by simp, fun a ha b hb => ?_⟩
      rw [List.mem_singleton.mp hb]
      intro e
      obtain ⟨j, hj, ej⟩ := List.mem_iff_getElem.mp ha
      have := (rt j a (by rw [List.getElem?_eq_getElem hj, ej])).2.1
      rw [e] at this
      rw [s2 _ _ this] at ht
      cases ht
  · have ei : i = n := by omega
    subst ei
    refine .inl ⟨G.stop H s, hd H ts s eD ?_ nd (fun h => ?_) fun t h => ?_⟩
    · obtain ⟨us, e1, p⟩ := refs_of (R := fun t v => H t = some (obj v)) M (ts.map V.ref) (by rw [List.length_map]; omega) fun j z e => by
        rw [List.getElem?_map] at e
        cases et : ts[j]? with
        | none => rw [et] at e; cases e
        | some t =>
          rw [et] at e
          exact ⟨t, (Option.some.inj e).symm, (rt j t et).2.1⟩
      have e2 : ts = us := by
        have inj : ∀ (a b : List Addr), a.map V.ref = b.map V.ref → a = b := fun a b h => by
          induction a generalizing b with
          | nil => cases b with
            | nil => rfl
            | cons _ _ => cases h
          | cons x a ih => cases b with
            | nil => cases h
            | cons y b =>
              injection h with h1 h2
              injection h1 with h1
              rw [h1, ih b h2]
        exact inj _ _ e1
      rw [e2]
      exact p
    · obtain ⟨j, hj, ej⟩ := List.mem_iff_getElem.mp h
      exact (rt j D (by rw [List.getElem?_eq_getElem hj, ej])).1 rfl
    · obtain ⟨j, hj, ej⟩ := List.mem_iff_getElem.mp h
      exact (rt j t (by rw [List.getElem?_eq_getElem hj, ej])).2.2
theorem mat_move' {H H' : Hp} {ts : List Addr} {M : List (List Int)} (p : Paired (fun t (v : List Int) => H t = some (.lst (v.map V.int))) ts M) (h : ∀ t (v : List Int), t ∈ ts → H t = some (.lst (v.map V.int)) → H' t = some (.lst (v.map V.int))) : Paired (fun t (v : List Int) => H' t = some (.lst (v.map V.int))) ts M := mat_move p h
theorem mat_upd {H : Hp} {t : Addr} {v' : List Int} : ∀ {ts : List Addr} {M : List (List Int)} {j : Nat}, Paired (fun t (v : List Int) => H t = some (.lst (v.map V.int))) ts M → ts.Nodup → ts[j]? = some t → Paired (fun u (v : List Int) => (upd H t (.lst (v'.map V.int))) u = some (.lst (v.map V.int))) ts (M.set j v')
  | _, _, _, .nil, _, h => by cases h
  | x :: ts, v :: M, 0, .cons a r, nd, h => by
    cases h
    refine .cons upd_same (mat_move' r fun u v hu e => ?_)
    rw [upd_ne (fun z => (List.nodup_cons.mp nd).1 (by rw [← z]; exact hu))]
    exact e
  | x :: ts, v :: M, j + 1, .cons a r, nd, h => by
    refine .cons ?_ (mat_upd r (List.nodup_cons.mp nd).2 h)
    have hne : x ≠ t := fun z => (List.nodup_cons.mp nd).1 (by rw [z]; exact List.mem_of_getElem? h)
    rw [upd_ne hne]
    exact a
/-- rows whose constants were spoilt, n times at most -/
structure Spo (wd : Nat) (R S : List (List Int)) (n : Nat) : Prop where
  len : S.length = R.length
  each : ∀ j, j < R.length → (CfM.row S j).tail = (CfM.row R j).tail ∧ (CfM.row S j).length = wd + 1 ∧ (CfM.g (CfM.row S j) 0).natAbs ≤ 2 ^ 70 + n * 2 ^ 64
theorem Spo.start {wd : Nat} {R : List (List Int)} {vals : List Int} (ok : RowsOk wd R vals) : Spo wd R R 0 := ⟨rfl, fun j hj => ⟨rfl, ok.rows.each _ (CfM.row_mem hj), by have := ok.const _ (CfM.row_mem hj); omega⟩⟩
theorem row_set {S : List (List Int)} {i j : Nat} {v : List Int} (hi : i < S.length) : CfM.row (S.set i v) j = if j = i then v else CfM.row S j := by
  unfold CfM.row
  rw [List.getD_eq_getElem?_getD, List.getD_eq_getElem?_getD, List.getElem?_set]
  by_cases e : j = i
  · subst e
    rw [if_pos rfl, if_pos rfl, if_pos hi]
    rfl
  · rw [if_neg (fun z => e z.symm), if_neg e]
theorem Spo.step {wd n j : Nat} {R S : List (List Int)} {c0 x : Int} {cs : List Int} (h : Spo wd R S n) (hj : j < R.length) (er : CfM.row S j = c0 :: cs) (hx : x.natAbs ≤ 2 ^ 64) : Spo wd R (S.set j ((c0 + x) :: cs)) (n + 1) := by
  refine ⟨by rw [List.length_set]; exact h.len, fun i hi => ?_⟩
  rw [row_set (by rw [h.len]; exact hj)]
  by_cases e : i = j
  · subst e
    obtain ⟨a, b, d⟩ := h.each i hi
    rw [er] at a b d
    rw [if_pos rfl]
    refine ⟨a, by simpa using b, ?_⟩
    have d : c0.natAbs ≤ 2 ^ 70 + n * 2 ^ 64 := d
    show (c0 + x).natAbs ≤ _
    rw [Nat.add_mul, Nat.one_mul]
    omega
  · rw [if_neg e]
    obtain ⟨a, b, d⟩ := h.each i hi
    exact ⟨a, b, Nat.le_trans d (by rw [Nat.add_mul]; omega)⟩
theorem Spo.rows {wd n : Nat} {R S : List (List Int)} (h : Spo wd R S n) : CfM.Rows wd S := ⟨fun r hr => by
  obtain ⟨j, hj, rfl⟩ := CfM.row_at hr
  exact (h.each j (by rw [← h.len]; exact hj)).2.1⟩
theorem Spo.rowB {wd n : Nat} {R S : List (List Int)} {vals : List Int} (h : Spo wd R S n) (ok : RowsOk wd R vals) (hn : n ≤ 10) : ∀ r ∈ S, CfM.RowB r := fun r hr => by
  obtain ⟨j, hj, rfl⟩ := CfM.row_at hr
  have hj' : j < R.length := by rw [← h.len]; exact hj
  obtain ⟨a, b, d⟩ := h.each j hj'
  refine ⟨fun i => ?_, ?_⟩
  · rw [a]
    exact Nat.le_trans (ok.coef j hj' i) (CB_top j)
  · have : n * 2 ^ 64 ≤ 10 * 2 ^ 64 := Nat.mul_le_mul_right _ hn
    omega
theorem str_br : decide (V.str "base" = V.str "rest") = false := by decide +kernel
theorem str_rr : decide (V.str "rest" = V.str "rest") = true := by decide +kernel
abbrev nLaw : List Str := ["_law_script", "_law_cells", "_law_head", "_law_wide", "_law_size", "_law_at", "_law_values", "_law_rows_here", "_law_spoilt", "_law_turn", "_law_by", "_law_handed", "_law_found", "_law_lists", "_law_other", "_law_elder", "_law_row"]
theorem scLaw : FnScope nLaw ["_law_script"] (defScope sLaw) := ⟨rfl, rfl, rfl, by decide +kernel, rfl, by decide +kernel, by decide +kernel⟩
def spLaw (K : PySem.W.Frag) : Sp := fun vs H Q _ => ∃ (a : Addr) (ns : List Int), vs = [.ref a] ∧ SqL K H a (ns.map V.int) ∧ ns.length ≤ 63 ∧ ∀ H', Q (.bl true) H'
/-- what is handed on by the defs behind the law -/
structure Fs (P : Program) (w : World) (K : PySem.W.Frag) (mg : Str → Option Value) (base : Heap) (k : Nat) (x : Str) (ps : List Str) (sp : Sp) (f : Addr) (fd : FuncData) : Prop where
  ok : FnOk P w K mg base CX0 k f fd ps sp
  keep : PySem.W.keepIn K (.ref f) = true
  here : mg x = some (.ref f)
section
variable {P : Program} {w : World} {K : PySem.W.Frag} {mg : Str → Option Value} {base : Heap}
theorem ok_law {f fFo fPo fTa fNu fRo fSe fBa fRe fSa fSh fSp fTi : Addr} {fd dFo dPo dTa dNu dRo dSe dBa dRe dSa dSh dSp dTi : FuncData} {k : Nat} (F : Fun K "law" "law" sLaw f fd)
    (Fo : Fs P w K mg base k "_law_folded" ["_law_script", "_law_most"] (spFolded K) fFo dFo) (bFo : Binds K dFo ["_law_script", "_law_most"] [])
    (Po : Fs P w K mg base k "_law_pool" ["_law_script", "_law_k"] (spPool K) fPo dPo) (bPo : Binds K dPo ["_law_script", "_law_k"] [])
    (Ta : Fs P w K mg base k "_law_take" ["_law_pool_here", "_law_many"] spTake fTa dTa) (bTa : Binds K dTa ["_law_pool_here", "_law_many"] [])
    (Nu : Fs P w K mg base k "_law_number" ["_law_pool_here", "_law_size"] spNumber fNu dNu) (bNu : Binds K dNu ["_law_pool_here", "_law_size"] [])
    (Ro : Fs P w K mg base k "_law_rows" ["_law_cells", "_law_head", "_law_values", "_law_size"] spRows fRo dRo) (bRo : Binds K dRo ["_law_cells", "_law_head", "_law_values", "_law_size"] [])
    (Se : Fs P w K mg base k "settled" ["rows", "width"] spSettled fSe dSe) (bSe : KBn K dSe ["rows", "width"] 1 ["width"] (fun us ws => us ++ ws) (fun vs zs => vs ++ zs))
    (Ba : Fs P w K mg base k "_law_base" ["_law_rows_here", "_law_found", "_law_wide"] spLbase fBa dBa) (bBa : Binds K dBa ["_law_rows_here", "_law_found", "_law_wide"] [])
    (Re : Fs P w K mg base k "_law_rest" ["_law_rows_here", "_law_found", "_law_wide"] spLrest fRe dRe) (bRe : Binds K dRe ["_law_rows_here", "_law_found", "_law_wide"] [])
    (Sa : Fs P w K mg base k "_law_says" ["_law_found", "_law_due"] spLsays fSa dSa) (bSa : Binds K dSa ["_law_found", "_law_due"] [])
    (Sh : Fs P w K mg base k "shows_rest" ["rows", "thing", "width"] spShows fSh dSh) (bSh : KBn K dSh ["rows", "thing", "width"] 2 ["width"] (fun us ws => us ++ ws) (fun vs zs => vs ++ zs))
    (Spr : Fs P w K mg base k "spread" ["paper", "times"] spSpread fSp dSp) (bSp : Binds K dSp ["paper", "times"] [])
    (Ti : Fs P w K mg base k "times_of" ["paper", "values"] spTimes fTi dTi) (bTi : Binds K dTi ["paper", "values"] [])
    (ml : mg "len" = none) (mi : mg "int" = none) (mr : mg "range" = none) (mli : mg "list" = none) (mt : mg "tuple" = none) : FnOk P w K mg base CX0 (k + 1) f fd ["_law_script"] (spLaw K) := by
  refine F.ok scLaw (fun vs H Q E h => ?_) (fun cdv A outer s H vs Q E hr h => ?_)
  · obtain ⟨_, _, rfl, _⟩ := h
    rfl
  · obtain ⟨a, ns, rfl, hS, hnl, q⟩ := h
    refine ⟨_, pss_cons (ps_set (i := 1) scLaw.nd rfl (.inl rfl) (pe_call Fo.ok hr (by rfl) Fo.here Fo.keep bFo .nil pass0 (pa_cons (pv 0) (pa_cons pe_int pa_nil))))
      (pss_cons (ps_set (i := 1) scLaw.nd rfl (.inl rfl) (pe_op op_cat (pv 1) (pe_op op_rep (pe_lst (pa_cons pe_int (pa_cons pe_int pa_nil))) (pe_callTy call_int1 (by rfl) mi (by decide +kernel) (pa_cons
          (pe_and (pe_cmpR op_lt (pe_callB call_len_seq (by rfl) ml PySem.boot_len (pa_cons (pv 1) pa_nil)) pe_int (nomark _)) (pe_one (pe_cmpR op_lt (pe_ix ix_list (pv 1) pe_int (fun _ _ => rfl)) (pe_op op_pow pe_int pe_int) (nomark _)))) pa_nil)))))
      (pss_cons (ps_set (i := 2) scLaw.nd rfl (.inr rfl) (pe_call Po.ok hr (by rfl) Po.here Po.keep bPo .nil pass0 (pa_cons (pv 1) (pa_cons pe_int pa_nil))))
      (pss_cons (ps_set (i := 3) scLaw.nd rfl (.inl rfl) (pe_call Ta.ok hr (by rfl) Ta.here Ta.keep bTa .nil pass0 (pa_cons (pv 2) (pa_cons pe_int pa_nil))))
      (pss_cons (ps_set (i := 4) scLaw.nd rfl (.inr rfl) (pe_op op_mulX (pe_ix ix_list (pe_lst (pa_cons pe_int (pa_cons pe_int (pa_cons pe_int pa_nil)))) (pe_call Ta.ok hr (by rfl) Ta.here Ta.keep bTa .nil pass0 (pa_cons (pv 2) (pa_cons pe_int pa_nil))) (fun _ _ => rfl))
          (pe_callTy call_int1 (by rfl) mi (by decide +kernel) (pa_cons (pe_cmpR op_lt (pv 3) pe_int (nomark _)) pa_nil))))
      (pss_cons (ps_setLc (i := 6) (own := [("_law_at", 5)]) (g := gName 5) (tt := tYes) rfl scLaw.nd rfl rfl (sw_true rfl rfl rfl (by decide +kernel)) (pi_range1 (by rfl) mr (pa_cons (pv 3) pa_nil)) (blkOk_by (N := nLaw) (sc := defScope sLaw) (by decide +kernel))
          (fun _ _ _ _ _ => pg_name (i := 5) scLaw.nd rfl (Or.inl rfl)) (fun _ _ _ _ _ => pts_nil)
          (fun _ _ _ _ _ => pe_call Nu.ok hr (by rfl) Nu.here Nu.keep bNu .nil pass0 (pa_cons (pv 2) (pa_cons (pv 4) pa_nil))))
      (pss_cons (ps_set (i := 7) scLaw.nd rfl (.inl rfl) (pe_call Ro.ok hr (by rfl) Ro.here Ro.keep bRo .nil pass0 (pa_cons (pv 1) (pa_cons (pv 2) (pa_cons (pv 6) (pa_cons (pv 4) pa_nil))))))
      (pss_cons (ps_setLc (i := 8) (own := [("_law_row", 16)]) (g := gName 16) (tt := tYes) rfl scLaw.nd rfl rfl (sw_true rfl rfl rfl (by decide +kernel)) (pi_list (pv 7)) (blkOk_by (N := nLaw) (sc := defScope sLaw) (by decide +kernel))
          (fun _ _ _ _ _ => pg_name (i := 16) scLaw.nd rfl (Or.inl rfl)) (fun _ _ _ _ _ => pts_nil)
          (fun _ _ _ _ _ => pe_callTy (T := "list") (r := rListOf K) call_list_of (by rfl) mli (by decide +kernel) (pa_cons (pv 16) pa_nil)))
      (pss_cons (ps_if (pt_cmpR op_gt (pe_callB call_len_seq (by rfl) ml PySem.boot_len (pa_cons (pv 7) pa_nil)) pe_int (nomark _))
          (pss_one (ps_for PassesOwn.never rfl (pi_range1 (by rfl) mr (pa_cons (pe_call Ta.ok hr (by rfl) Ta.here Ta.keep bTa .nil pass0 (pa_cons (pv 2) (pa_cons pe_int pa_nil))) pa_nil)) (pg_name (i := 9) scLaw.nd rfl (Or.inl rfl))
            (pss_cons (ps_set (i := 5) scLaw.nd rfl (.inl rfl) (pe_call Ta.ok hr (by rfl) Ta.here Ta.keep bTa .nil pass0 (pa_cons (pv 2) (pa_cons (pe_callB call_len_seq (by rfl) ml PySem.boot_len (pa_cons (pv 7) pa_nil)) pa_nil))))
            (pss_cons (ps_set (i := 10) scLaw.nd rfl (.inl rfl) (pe_op op_sub (pe_call Ta.ok hr (by rfl) Ta.here Ta.keep bTa .nil pass0 (pa_cons (pv 2) (pa_cons pe_int pa_nil))) pe_int))
            (pss_cons (ps_if (pt_cmpR op_eq (pe_call Ta.ok hr (by rfl) Ta.here Ta.keep bTa .nil pass0 (pa_cons (pv 2) (pa_cons pe_int pa_nil))) pe_int (nomark _))
                (pss_one (ps_set (i := 10) scLaw.nd rfl (.inl rfl) (pe_call Nu.ok hr (by rfl) Nu.here Nu.keep bNu .nil pass0 (pa_cons (pv 2) (pa_cons pe_int pa_nil))))) pss_nil)
            (pss_one (ps_asg (pe_op op_add (pe_ix ix_list (pe_ix ix_list (pv 8) (pv 5) (fun _ _ => rfl)) pe_int (fun _ _ => rfl)) (pv 10)) (pg_sub (pe_ix ix_list (pv 8) (pv 5) (fun _ _ => rfl)) pe_int set_list)))))))) pss_nil)
      (pss_cons (ps_setLc (i := 11) (own := [("_law_row", 16)]) (g := gName 16) (tt := tYes) rfl scLaw.nd rfl rfl (sw_true rfl rfl rfl (by decide +kernel)) (pi_list (pv 8)) (blkOk_by (N := nLaw) (sc := defScope sLaw) (by decide +kernel))
          (fun _ _ _ _ _ => pg_name (i := 16) scLaw.nd rfl (Or.inl rfl)) (fun _ _ _ _ _ => pts_nil)
          (fun _ _ _ _ _ => pe_callTy (T := "tuple") (r := rTupOf K) call_tuple_of (by rfl) mt (by decide +kernel) (pa_cons (pv 16) pa_nil)))
      (pss_cons (ps_set (i := 12) scLaw.nd rfl (.inl rfl) (pe_callN Se.ok hr (by rfl) Se.here Se.keep bSe pass0 (pa_cons (pv 11) pa_nil) (pk_cons (pv 3) pk_nil)))
      (pss_cons (ps_if (PW.pt (pw_and (pt_not (pt_val (pe_call Ba.ok hr (by rfl) Ba.here Ba.keep bBa .nil pass0 (pa_cons (pv 8) (pa_cons (pv 12) (pa_cons (pv 3) pa_nil)))))) (pw_and1 (pt_not (pt_val (pe_call Re.ok hr (by rfl) Re.here Re.keep bRe .nil pass0 (pa_cons (pv 8) (pa_cons (pv 12) (pa_cons (pv 3) pa_nil)))))))))
          (pss_one (ps_ret pe_bl)) pss_nil)
      (pss_cons (ps_if (pt_not (pt_val (pe_call Sa.ok hr (by rfl) Sa.here Sa.keep bSa .nil pass0 (pa_cons (pe_callN Sh.ok hr (by rfl) Sh.here Sh.keep bSh pass0 (pa_cons (pv 11) (pa_cons (pv 12) pa_nil)) (pk_cons (pv 3) pk_nil)) (pa_cons (pe_cmpR op_eq (pe_ix ix_tup (pv 12) pe_int (fun _ _ => rfl)) pe_str (nomark _)) pa_nil)))))
          (pss_one (ps_ret pe_bl)) pss_nil)
      (pss_cons (ps_setLc (i := 13) (own := [("_law_row", 16)]) (g := gName 16) (tt := tYes) rfl scLaw.nd rfl rfl (sw_true rfl rfl rfl (by decide +kernel)) (pi_list (pv 8)) (blkOk_by (N := nLaw) (sc := defScope sLaw) (by decide +kernel))
          (fun _ _ _ _ _ => pg_name (i := 16) scLaw.nd rfl (Or.inl rfl)) (fun _ _ _ _ _ => pts_nil)
          (fun _ _ _ _ _ => pe_callTy (T := "list") (r := rListOf K) call_list_of (by rfl) mli (by decide +kernel) (pa_cons (pv 16) pa_nil)))
      (pss_cons (ps_set (i := 14) scLaw.nd rfl (.inl rfl) (pe_callN Se.ok hr (by rfl) Se.here Se.keep bSe pass0 (pa_cons (pv 13) pa_nil) (pk_cons (pv 3) pk_nil)))
      (pss_cons (ps_if (PW.pt (pw_and (pt_not (pt_val (pe_call Ba.ok hr (by rfl) Ba.here Ba.keep bBa .nil pass0 (pa_cons (pv 8) (pa_cons (pv 14) (pa_cons (pv 3) pa_nil)))))) (pw_and1 (pt_not (pt_val (pe_call Re.ok hr (by rfl) Re.here Re.keep bRe .nil pass0 (pa_cons (pv 8) (pa_cons (pv 14) (pa_cons (pv 3) pa_nil)))))))))
          (pss_one (ps_ret pe_bl)) pss_nil)
      (pss_cons (ps_if (PW.pt (pw_or (pt_cmpR op_ne (pe_ix ix_tup (pv 14) pe_int (fun _ _ => rfl)) (pe_ix ix_tup (pv 12) pe_int (fun _ _ => rfl)) (nomark _))
            (pw_or1 (pt_not (pt_val (pe_call Sa.ok hr (by rfl) Sa.here Sa.keep bSa .nil pass0 (pa_cons (pe_callN Sh.ok hr (by rfl) Sh.here Sh.keep bSh pass0 (pa_cons (pv 13) (pa_cons (pv 14) pa_nil)) (pk_cons (pv 3) pk_nil)) (pa_cons (pe_cmpR op_eq (pe_ix ix_tup (pv 12) pe_int (fun _ _ => rfl)) pe_str (nomark _)) pa_nil))))))))
          (pss_one (ps_ret pe_bl)) pss_nil)
      (pss_cons (ps_if (pt_cmpR (op_neD hr.units) (pv 13) (pv 8) (nomark _)) (pss_one (ps_ret pe_bl)) pss_nil)
      (pss_cons (ps_set (i := 15) scLaw.nd rfl (.inl rfl) (pe_callN Se.ok hr (by rfl) Se.here Se.keep bSe pass0 (pa_cons
          (pe_lc (own := [("_law_row", 16)]) (g := gName 16) (tt := tYes) rfl scLaw.nd (pi_list (pv 7)) (blkOk_by (N := nLaw) (sc := defScope sLaw) (by decide +kernel))
            (fun _ _ _ _ _ => pg_name (i := 16) scLaw.nd rfl (Or.inl rfl)) (fun _ _ _ _ _ => pts_nil)
            (fun _ _ _ _ _ => pe_callTy (T := "list") (r := rListOf K) call_list_of (by rfl) mli (by decide +kernel) (pa_cons (pv 16) pa_nil))) pa_nil) (pk_cons (pv 3) pk_nil)))
      (pss_cons (ps_if (PW.pt (pw_or (pt_not (pt_val (pe_call Ba.ok hr (by rfl) Ba.here Ba.keep bBa .nil pass0 (pa_cons (pv 7) (pa_cons (pv 15) (pa_cons (pv 3) pa_nil))))))
            (pw_or1 (pt_cmpR (op_neD hr.units) (pe_call Spr.ok hr (by rfl) Spr.here Spr.keep bSp .nil pass0 (pa_cons (pv 15) (pa_cons (pe_call Ti.ok hr (by rfl) Ti.here Ti.keep bTi .nil pass0 (pa_cons (pv 15) (pa_cons (pv 6) pa_nil))) pa_nil)))
              (pe_callTy call_tuple_of (by rfl) mt (by decide +kernel) (pa_cons (pv 6) pa_nil)) (nomark _)))))
          (pss_one (ps_ret pe_bl)) pss_nil)
      (pss_one (ps_ret (pe_and (pe_cmpR (op_eqD hr.units) (pe_callN Se.ok hr (by rfl) Se.here Se.keep bSe pass0 (pa_cons (pv 11) pa_nil) (pk_cons (pv 3) pk_nil)) (pv 12) (nomark _))
          (pe_one (pe_cmpR (op_eqD hr.units) (pv 11) (pe_lc (own := [("_law_row", 16)]) (g := gName 16) (tt := tYes) rfl scLaw.nd (pi_list (pv 8)) (blkOk_by (N := nLaw) (sc := defScope sLaw) (by decide +kernel))
            (fun _ _ _ _ _ => pg_name (i := 16) scLaw.nd rfl (Or.inl rfl)) (fun _ _ _ _ _ => pts_nil)
            (fun _ _ _ _ _ => pe_callTy (T := "tuple") (r := rTupOf K) call_tuple_of (by rfl) mt (by decide +kernel) (pa_cons (pv 16) pa_nil))) (nomark _))))))))))))))))))))))))), ?_⟩
    -- the cells
    refine seq_split (fun σ' H1 => ∃ (c0 : Addr) (ys0 : List Int), σ' = [some (.ref a), some (.ref c0), none, none, none, none, none, none, none, none, none, none, none, none, none, none, none] ∧ H1 c0 = some (.lst (ys0.map V.int)) ∧ 1 ≤ ys0.length ∧ ys0.length ≤ 12) (fun σ' H1 hC => ?_) (fun nx hnx => ⟨.ref a, rfl, a, ns, rfl, hS, by omega, fun H1 c0 ys0 s1 ec0 y1 y12 => hnx _ _ ⟨c0, ys0, rfl, ec0, y1, y12⟩⟩)
    obtain ⟨c0, ys0, rfl, ec0, y1, y12⟩ := hC
    refine seq_split (fun σ' H' => ∃ (c : Addr) (ys : List Int), σ' = [some (.ref a), some (.ref c), none, none, none, none, none, none, none, none, none, none, none, none, none, none, none] ∧ H' c = some (.lst (ys.map V.int)) ∧ ys.length ≤ 12) (fun σ' H2 hC => ?_) (fun nx hnx => ?_)
    rotate_left
    · refine ⟨.ref c0, rfl, by show 2 ≤ sizeLine; decide, fun l hl => ?_⟩
      have sl : Same H1 (upd H1 l (.lst [.int 7, .int 9])) := same_upd hl
      have el : (upd H1 l (.lst [.int 7, .int 9])) l = some (.lst [.int 7, .int 9]) := upd_same
      generalize upd H1 l (.lst [.int 7, .int 9]) = H2 at *
      have ec := sl _ _ ec0
      refine ⟨.ref c0, rfl, c0, _, rfl, .inl (.inl (.inl ec)), ((ys0.map V.int).length : Int), 2, rfl, rfl, _, rfl, ite2 (fun h => ?_) (fun h => ?_)⟩
      · have hlt : ys0.length < 2 := by
          have := of_decide_eq_true h
          rw [List.length_map] at this
          omega
        obtain ⟨y0, yr, ey⟩ : ∃ y0 yr, ys0 = y0 :: yr := by
          cases ys0 with
          | nil => simp at y1
          | cons y r => exact ⟨y, r, rfl⟩
        subst ey
        have y13 : yr.length + 1 ≤ 12 := y12
        refine ⟨.ref c0, rfl, c0, _, 0, .int y0, rfl, rfl, .inl (.inl ec), atI_nat (j := 0) rfl, 10, 18, rfl, rfl, ⟨by decide, by decide, by decide⟩, y0, _, rfl, rfl, .inr ⟨_, rfl, l, _, _, rfl, rfl, el, by split <;> decide, by split <;> decide, by split <;> decide, fun p hp => ?_⟩⟩
        refine ⟨c0, p, _, _, rfl, rfl, by rw [upd_ne (ne_of_none ec hp)]; exact ec, upd_same, ?_, fun p2 hp2 => ?_⟩
        · split <;> exact Nat.le_of_lt (small1000 (by simp; omega))
        · split at hp2 <;> rename_i hb
          · refine hnx _ _ ⟨p2, (y0 :: yr) ++ [7, 9], rfl, ?_, by rw [List.length_append]; show (y0 :: yr).length + 2 ≤ 12; omega⟩
            rw [upd_same, if_pos hb, List.map_append]
            rfl
          · refine hnx _ _ ⟨p2, y0 :: yr, rfl, ?_, by omega⟩
            rw [upd_same, if_neg hb]
            simp
      · refine .inr ⟨_, rfl, l, _, _, rfl, rfl, el, by decide, by decide, by decide, fun p hp => ?_⟩
        refine ⟨c0, p, _, _, rfl, rfl, by rw [upd_ne (ne_of_none ec hp)]; exact ec, upd_same, by rw [List.length_map]; exact Nat.le_of_lt (small1000 (by simp; omega)), fun p2 hp2 => ?_⟩
        refine hnx _ _ ⟨p2, ys0, rfl, ?_, y12⟩
        rw [upd_same]
        simp
    obtain ⟨c, ys, rfl, ec, yl⟩ := hC
    -- the head, the width
    refine seq_split (fun σ' H3 => ∃ hd : Addr, σ' = [some (.ref a), some (.ref c), some (.ref hd), none, none, none, none, none, none, none, none, none, none, none, none, none, none] ∧ H3 c = some (.lst (ys.map V.int)) ∧ PoolAt H3 hd 100000 ∧ c ≠ hd) (fun σ' H3 hC => ?_) (fun nx hnx => ⟨.ref c, rfl, c, ys, 0, rfl, .inl (.inl ec), by omega, by decide, fun H3 hd s3 hhd P3 => hnx _ _ ⟨hd, rfl, s3 _ _ ec, P3, ne_of_none ec hhd⟩⟩)
    clear ec
    obtain ⟨hd, rfl, ec, P3, nch⟩ := hC
    have live : ∀ {H' : Hp} {m : Nat}, PoolAt H' hd m → ∃ o, H' hd = some o := fun {H' m} h => by
      obtain ⟨_, _, _, e, _⟩ := h
      exact ⟨_, e⟩
    refine seq_split (fun σ' H4 => ∃ wd : Nat, wd ≤ 8 ∧ σ' = [some (.ref a), some (.ref c), some (.ref hd), some (.int (wd : Int)), none, none, none, none, none, none, none, none, none, none, none, none, none] ∧ (c ≠ hd → H4 c = some (.lst (ys.map V.int))) ∧ PoolAt H4 hd 100001) (fun σ' H4 hC => ?_) (fun nx hnx => ?_)
    rotate_left
    · refine ⟨.ref hd, rfl, hd, 9, 100000, rfl, by decide, P3, by decide, fun r H4 r0 r1 b4 P4 => hnx _ _ ⟨r.toNat, by omega, ?_, fun ne => b4 _ _ ne ec, P4⟩⟩
      have er : r = ((r.toNat : Nat) : Int) := by omega
      generalize r.toNat = n at *
      subst er
      rfl
    obtain ⟨wd, h8, rfl, ec4, P4⟩ := hC
    have ec4 := ec4 nch
    -- the size
    refine seq_split (fun σ' H5 => ∃ sz : Nat, sz ≤ 1 ∧ σ' = [some (.ref a), some (.ref c), some (.ref hd), some (.int (wd : Int)), some (.int (sz : Int)), none, none, none, none, none, none, none, none, none, none, none, none] ∧ H5 c = some (.lst (ys.map V.int)) ∧ PoolAt H5 hd 100002) (fun σ' H5 hC => ?_) (fun nx hnx => ?_)
    rotate_left
    · refine ⟨by show 3 ≤ sizeLine; decide, fun l hl => ?_⟩
      have sl : Same H4 (upd H4 l (.lst [.int 0, .int 0, .int 1])) := same_upd hl
      have el : (upd H4 l (.lst [.int 0, .int 0, .int 1])) l = some (.lst [.int 0, .int 0, .int 1]) := upd_same
      have nlh : l ≠ hd := by
        obtain ⟨o, e⟩ := live P4
        exact (ne_of_none e hl).symm
      generalize upd H4 l (.lst [.int 0, .int 0, .int 1]) = H5 at *
      refine ⟨.ref hd, rfl, hd, 3, 100001, rfl, by decide, P4.same sl, by decide, fun r H6 r0 r1 b6 P6 => ?_⟩
      have el6 := b6 _ _ nlh el
      have ec6 := b6 _ _ nch (sl _ _ ec4)
      have fin : ∀ (x : Int) (b : Bool), (x = 0 ∨ x = 1) → ∀ σ'', σ'' = [some (.ref a), some (.ref c), some (.ref hd), some (.int (wd : Int)), some (.int (x * (if b = true then 1 else 0))), none, none, none, none, none, none, none, none, none, none, none, none] → nx σ'' H6 := fun x b hx σ'' e => by
        rcases hx with rfl | rfl
        · exact hnx _ _ ⟨0, by decide, by rw [e, Int.zero_mul]; rfl, ec6, P6⟩
        · cases b
          · exact hnx _ _ ⟨0, by decide, e, ec6, P6⟩
          · exact hnx _ _ ⟨1, by decide, e, ec6, P6⟩
      have hr3 : r = 0 ∨ r = 1 ∨ r = 2 := by omega
      rcases hr3 with rfl | rfl | rfl
      · exact ⟨l, _, 0, .int 0, rfl, rfl, .inl (.inl el6), atI_nat (j := 0) rfl, .int (wd : Int), rfl, (wd : Int), 6, rfl, rfl, .inr ⟨_, rfl, 0, _, rfl, rfl, cmul_of (show (0 : Int).natAbs ≤ 2 ^ 1 by decide) (show (if decide ((wd : Int) < 6) = true then (1 : Int) else 0).natAbs ≤ 2 ^ 1 by split <;> decide) (by decide), fin 0 (decide ((wd : Int) < 6)) (.inl rfl) _ rfl⟩⟩
      · exact ⟨l, _, 1, .int 0, rfl, rfl, .inl (.inl el6), atI_nat (j := 1) rfl, .int (wd : Int), rfl, (wd : Int), 6, rfl, rfl, .inr ⟨_, rfl, 0, _, rfl, rfl, cmul_of (show (0 : Int).natAbs ≤ 2 ^ 1 by decide) (show (if decide ((wd : Int) < 6) = true then (1 : Int) else 0).natAbs ≤ 2 ^ 1 by split <;> decide) (by decide), fin 0 (decide ((wd : Int) < 6)) (.inl rfl) _ rfl⟩⟩
      · exact ⟨l, _, 2, .int 1, rfl, rfl, .inl (.inl el6), atI_nat (j := 2) rfl, .int (wd : Int), rfl, (wd : Int), 6, rfl, rfl, .inr ⟨_, rfl, 1, _, rfl, rfl, cmul_of (show (1 : Int).natAbs ≤ 2 ^ 1 by decide) (show (if decide ((wd : Int) < 6) = true then (1 : Int) else 0).natAbs ≤ 2 ^ 1 by split <;> decide) (by decide), fin 1 (decide ((wd : Int) < 6)) (.inr rfl) _ rfl⟩⟩
    clear ec4 P4 ec P3
    obtain ⟨sz, hsz, rfl, ec, P5⟩ := hC
    -- the values
    refine seq_split (fun σ' H6 => ∃ (D : Addr) (vals : List Int), σ' = [some (.ref a), some (.ref c), some (.ref hd), some (.int (wd : Int)), some (.int (sz : Int)), none, some (.ref D), none, none, none, none, none, none, none, none, none, none] ∧ H6 c = some (.lst (ys.map V.int)) ∧ H6 D = some (.lst (vals.map V.int)) ∧ D ≠ hd ∧ vals.length = wd ∧ (∀ i, (CfM.g vals i).natAbs ≤ 10000000) ∧ PoolAt H6 hd 100042) (fun σ' H6 hC => ?_) (fun nx hnx => ?_)
    rotate_left
    · refine ⟨.int (wd : Int), rfl, (wd : Int), rfl, by omega, by omega, fun D hD => ?_⟩
      rw [Int.toNat_natCast]
      have nDh : D ≠ hd := by
        obtain ⟨o, e⟩ := live P5
        exact (ne_of_none e hD).symm
      refine lc_inv (n := wd) (by omega) (fun _ z => z.natAbs ≤ 10000000) (fun i H' => (∀ b o, b ≠ hd → b ≠ D → H5 b = some o → H' b = some o) ∧ PoolAt H' hd (100002 + 5 * i)) ⟨fun b o n1 _ e => e, P5⟩ (fun i H' o h => ⟨fun b x n1 n2 e => by rw [upd_ne n2]; exact h.1 b x n1 n2 e, ?_⟩) (fun i H' hi h => hi) (fun H' h => Nat.le_refl _) (fun i v H3 H4 hi hI y hacc post hp => ?_) (fun H6 vals hI eD hvl hz => ?_)
      · obtain ⟨_, x1, x2, x3, e, r⟩ := h
        exact ⟨x1, x2, x3, by rw [upd_ne (Ne.symm nDh)]; exact e, r⟩
      · obtain ⟨rfl, rfl⟩ := y
        refine ⟨rfl, .ref hd, rfl, .int (sz : Int), rfl, hd, sz, 100002 + 5 * i, rfl, by omega, hI.2, by omega, fun x H5 hx b5 P5 => ?_⟩
        refine hp x H5 ?_ ⟨fun b o n1 n2 e => b5 b o n1 (hI.1 b o n1 n2 e), P5.up (by omega)⟩ (fun acc e => b5 _ _ nDh e)
        have e : 1000000 ^ sz ≤ 1000000 ^ 1 := Nat.pow_le_pow_right (by decide) hsz
        omega
      · exact hnx _ _ ⟨D, vals, rfl, hI.1 _ _ nch (ne_of_none ec hD) ec, eD, nDh, hvl, g_all fun i z h => hz i z h, hI.2.up (by omega)⟩
    clear ec P5
    obtain ⟨D, vals, rfl, ec, eD, nDh, hvl, hvb, P6⟩ := hC
    -- the rows
    refine seq_split (fun σ' H7 => ∃ (l : Addr) (ts : List Addr) (R : List (List Int)), σ' = [some (.ref a), some (.ref c), some (.ref hd), some (.int (wd : Int)), some (.int (sz : Int)), none, some (.ref D), some (.ref l), none, none, none, none, none, none, none, none, none] ∧ H7 D = some (.lst (vals.map V.int)) ∧ H7 l = some (.lst (ts.map V.ref)) ∧ l ≠ hd ∧ Paired (fun t (v : List Int) => H7 t = some (.lst (v.map V.int))) ts R ∧ (∀ t ∈ ts, t ≠ hd) ∧ RowsOk wd R vals ∧ R.length ≤ 12 ∧ PoolAt H7 hd 100043) (fun σ' H7 hC => ?_) (fun nx hnx => ?_)
    rotate_left
    · refine ⟨.ref c, rfl, .ref hd, rfl, .ref D, rfl, .int (sz : Int), rfl, c, hd, D, ys, vals, sz, 100042, wd, rfl, ec, yl, P6, by decide, eD, hvl, h8, hvb, hsz, fun H7 l ts R b7 hl0 el pR offR ok R12 P7 => hnx _ _ ⟨l, ts, R, rfl, b7 _ _ nDh eD, el, ?_, pR, fun t ht => ?_, ok, R12, P7⟩⟩
      · obtain ⟨o, e⟩ := live P6
        exact (ne_of_none e hl0).symm
      · obtain ⟨o, e⟩ := live P6
        exact (ne_of_none e (offR t ht)).symm
    clear ec eD P6
    obtain ⟨l, ts, R, rfl, eD, el, nlh, pR, offR, ok, R12, P7⟩ := hC
    have lR := Paired.length pR
    -- spoilt
    refine seq_split (fun σ' H8 => ∃ (sp : Addr) (tsp : List Addr), σ' = [some (.ref a), some (.ref c), some (.ref hd), some (.int (wd : Int)), some (.int (sz : Int)), none, some (.ref D), some (.ref l), some (.ref sp), none, none, none, none, none, none, none, none] ∧ Same H7 H8 ∧ H8 sp = some (.lst (tsp.map V.ref)) ∧ sp ≠ hd ∧ sp ∉ tsp ∧ Paired (fun t (v : List Int) => H8 t = some (.lst (v.map V.int))) tsp R ∧ tsp.Nodup ∧ (∀ t ∈ tsp, H7 t = none)) (fun σ' H8 hC => ?_) (fun nx hnx => ?_)
    rotate_left
    · refine ⟨.ref l, rfl, l, rfl, ⟨_, .inl (.inl el)⟩, fun sp hsp => ?_⟩
      refine lc_matN (fun v => .lst (v.map V.int)) (goes_list (K := K) (.inl (.inl el))) hsp (by rw [List.length_map]; omega) R (by rw [List.length_map]; omega) (fun i v H3 hi s3 it post hp => ?_) (fun H8 tsp s8 esp psp nd nsp new => ?_)
      · rw [List.length_map] at hi
        obtain ⟨t, et, e⟩ := mat_row pR (i := i) (by omega)
        rw [List.getElem?_map, et] at it
        have it := (Option.some.inj it).symm
        subst it
        exact ⟨rfl, .ref t, rfl, t, _, rfl, .inl (.inl (.inl (s3 _ _ e))), fun l hl => hp l _ (same_upd hl) hl upd_same⟩
      · refine hnx _ _ ⟨sp, tsp, rfl, s8, esp, ?_, nsp, psp, nd, new⟩
        obtain ⟨o, e⟩ := live P7
        exact (ne_of_none e hsp).symm
    obtain ⟨sp, tsp, rfl, s78, esp, nsh, nsp, psp, nd, new⟩ := hC
    have lsp := Paired.length psp
    have P8 := P7.same s78
    have noffh : hd ∉ tsp := fun z => by
      obtain ⟨o, e⟩ := live P7
      rw [new _ z] at e
      cases e
    -- spoilt it is
    refine seq_split (fun σ' H9 => ∃ (S : List (List Int)) (n : Nat) (z5 z9 z10 : Option V), σ' = [some (.ref a), some (.ref c), some (.ref hd), some (.int (wd : Int)), some (.int (sz : Int)), z5, some (.ref D), some (.ref l), some (.ref sp), z9, z10, none, none, none, none, none, none] ∧ (∀ b o, b ≠ hd → b ∉ tsp → H8 b = some o → H9 b = some o) ∧ Paired (fun t (v : List Int) => H9 t = some (.lst (v.map V.int))) tsp S ∧ Spo wd R S n ∧ n ≤ 10) (fun σ' H9 hC => ?_) (fun nx hnx => ?_)
    rotate_left
    · have nll : l ∉ tsp := fun z => by rw [new _ z] at el; cases el
      refine ⟨.ref l, rfl, l, _, rfl, .inl (.inl (.inl (s78 _ _ el))), ((ts.map V.ref).length : Int), 0, rfl, rfl, _, rfl, ite2 (fun h => ?_) (fun h => hnx _ _ ⟨R, 0, _, _, _, rfl, fun b o _ _ e => e, psp, Spo.start ok, by decide⟩)⟩
      have hpos : 0 < R.length := by
        have := of_decide_eq_true h
        rw [List.length_map] at this
        omega
      refine ⟨.ref hd, rfl, hd, 4, 100043, rfl, by decide, P8, by decide, fun r Ha r0 r1 ba Pa => ?_⟩
      refine ⟨r, rfl, by omega, by omega, ?_⟩
      have er : r = ((r.toNat : Nat) : Int) := by omega
      have hr3 : r.toNat ≤ 3 := by omega
      refine for_range (fun i σ H' => ∃ (S : List (List Int)) (z5 z9 z10 : Option V), σ = [some (.ref a), some (.ref c), some (.ref hd), some (.int (wd : Int)), some (.int (sz : Int)), z5, some (.ref D), some (.ref l), some (.ref sp), z9, z10, none, none, none, none, none, none] ∧ (∀ b o, b ≠ hd → b ∉ tsp → H8 b = some o → H' b = some o) ∧ Paired (fun t (v : List Int) => H' t = some (.lst (v.map V.int))) tsp S ∧ Spo wd R S i ∧ i ≤ 3 ∧ PoolAt H' hd (100044 + 20 * i))
        ⟨R, _, _, _, rfl, fun b o n1 _ e => ba b o n1 e, mat_move psp fun t v ht e => ba _ _ (fun z => noffh (by rw [← z]; exact ht)) e, Spo.start ok, by omega, Pa⟩ (fun i σ H' hi hP => ?_) (fun σ H' hP => ?_)
      · obtain ⟨S, z5, z9, z10, rfl, keep, pS, spo, i3, PP⟩ := hP
        have lS := Paired.length pS
        -- at
        refine seq_split (fun σ' H2 => ∃ j : Nat, j < R.length ∧ σ' = [some (.ref a), some (.ref c), some (.ref hd), some (.int (wd : Int)), some (.int (sz : Int)), some (.int (j : Int)), some (.ref D), some (.ref l), some (.ref sp), some (.int (0 + (i : Int))), z10, none, none, none, none, none, none] ∧ But hd H' H2 ∧ PoolAt H2 hd (100045 + 20 * i)) (fun σ' H2 hC => ?_) (fun nx2 hnx2 => ?_)
        rotate_left
        · refine ⟨.ref hd, rfl, .ref l, rfl, l, _, rfl, .inl (.inl (.inl (keep _ _ nlh nll (s78 _ _ el)))), hd, ((ts.map V.ref).length : Int), 100044 + 20 * i, rfl, by rw [List.length_map]; omega, PP, by omega, fun r2 H2 q0 q1 b2 P2 => hnx2 _ _ ⟨r2.toNat, by rw [List.length_map] at q1; omega, ?_, b2, P2.up (by omega)⟩⟩
          have er2 : r2 = ((r2.toNat : Nat) : Int) := by omega
          generalize r2.toNat = n at *
          subst er2
          rfl
        obtain ⟨j, hj, rfl, b2, P2⟩ := hC
        -- by
        refine seq_split (fun σ' H3 => ∃ x : Int, x.natAbs ≤ 2 ^ 64 ∧ σ' = [some (.ref a), some (.ref c), some (.ref hd), some (.int (wd : Int)), some (.int (sz : Int)), some (.int (j : Int)), some (.ref D), some (.ref l), some (.ref sp), some (.int (0 + (i : Int))), some (.int x), none, none, none, none, none, none] ∧ But hd H' H3 ∧ PoolAt H3 hd (100046 + 20 * i)) (fun σ' H3 hC => ?_) (fun nx2 hnx2 => ?_)
        rotate_left
        · exact ⟨.ref hd, rfl, hd, 7, 100045 + 20 * i, rfl, by decide, P2, by omega, fun r2 H3 q0 q1 b3 P3 => ⟨r2, 3, rfl, rfl, hnx2 _ _ ⟨r2 - 3, by omega, rfl, b2.trans b3, P3.up (by omega)⟩⟩⟩
        obtain ⟨x0, hx0, rfl, b3, P3⟩ := hC
        refine seq_split (fun σ' H4 => ∃ x : Int, x.natAbs ≤ 2 ^ 64 ∧ σ' = [some (.ref a), some (.ref c), some (.ref hd), some (.int (wd : Int)), some (.int (sz : Int)), some (.int (j : Int)), some (.ref D), some (.ref l), some (.ref sp), some (.int (0 + (i : Int))), some (.int x), none, none, none, none, none, none] ∧ But hd H' H4 ∧ PoolAt H4 hd (100044 + 20 * (i + 1))) (fun σ' H4 hC => ?_) (fun nx2 hnx2 => ?_)
        rotate_left
        · refine ⟨.ref hd, rfl, hd, 4, 100046 + 20 * i, rfl, by decide, P3, by omega, fun r2 H4 q0 q1 b4 P4 => ⟨rfl, _, rfl, ite2 (fun h => ?_) (fun h => hnx2 _ _ ⟨x0, hx0, rfl, b3.trans b4, P4.up (by omega)⟩)⟩⟩
          refine ⟨.ref hd, rfl, hd, 3, 100047 + 20 * i, rfl, by decide, P4.up (by omega), by omega, fun x H5 hx b5 P5 => hnx2 _ _ ⟨x, ?_, rfl, (b3.trans b4).trans b5, P5.up (by omega)⟩⟩
          have e : 10 * 1000000 ^ 3 = 10000000000000000000 := by decide +kernel
          rw [e] at hx
          omega
        obtain ⟨x, hx, rfl, b4, P4⟩ := hC
        -- spoilt[at][0]
        have keep4 : ∀ b o, b ≠ hd → b ∉ tsp → H8 b = some o → H4 b = some o := fun b o n1 n2 e => b4 b o n1 (keep b o n1 n2 e)
        have pS4 : Paired (fun t (v : List Int) => H4 t = some (.lst (v.map V.int))) tsp S := mat_move pS fun t v ht e => b4 _ _ (fun z => noffh (by rw [← z]; exact ht)) e
        have esp4 := keep4 _ _ nsh nsp esp
        obtain ⟨t, et, ett⟩ := mat_row pS4 (i := j) (by rw [spo.len]; exact hj)
        have htm : t ∈ tsp := List.mem_of_getElem? et
        have hrl := (spo.each j hj).2.1
        obtain ⟨c1, cs, er⟩ : ∃ c1 cs, CfM.row S j = c1 :: cs := by
          cases e : CfM.row S j with
          | nil => rw [e] at hrl; simp at hrl
          | cons c1 cs => exact ⟨c1, cs, rfl⟩
        rw [er, List.map_cons] at ett
        refine ⟨.ref sp, rfl, .int (j : Int), rfl, sp, _, (j : Int), .ref t, rfl, rfl, .inl (.inl esp4), atI_nat (by rw [List.getElem?_map, et]; rfl), t, _, 0, .int c1, rfl, rfl, .inl (.inl ett), atI_nat (j := 0) rfl, .int x, rfl, c1, x, rfl, rfl, ?_⟩
        refine ⟨.ref sp, rfl, .int (j : Int), rfl, sp, _, (j : Int), .ref t, rfl, rfl, .inl (.inl esp4), atI_nat (by rw [List.getElem?_map, et]; rfl), t, _, 0, 0, rfl, rfl, ett, ixN_nat (a := 0) (Nat.succ_pos _), ?_⟩
        have nth : t ≠ hd := fun z => noffh (by rw [← z]; exact htm)
        refine ⟨S.set j ((c1 + x) :: cs), _, _, _, rfl, fun b o n1 n2 e => ?_, mat_upd (v' := (c1 + x) :: cs) pS4 nd et, spo.step hj er hx, by omega, ?_⟩
        · rw [upd_ne (fun z => n2 (by rw [z]; exact htm))]
          exact keep4 b o n1 n2 e
        · obtain ⟨x1, x2, x3, e, rr⟩ := P4
          exact ⟨x1, x2, x3, by rw [upd_ne (Ne.symm nth)]; exact e, rr⟩
      · obtain ⟨S, z5, z9, z10, rfl, keep, pS, spo, i3, PP⟩ := hP
        exact hnx _ _ ⟨S, _, _, _, _, rfl, keep, pS, spo, by omega⟩
    obtain ⟨S, n, z5, z9, z10, rfl, keep, pS, spo, hn10⟩ := hC
    have nll : l ∉ tsp := fun z => by rw [new _ z] at el; cases el
    have nlD : D ∉ tsp := fun z => by rw [new _ z] at eD; cases eD
    have el9 := keep _ _ nlh nll (s78 _ _ el)
    have eD9 := keep _ _ nDh nlD (s78 _ _ eD)
    have esp9 := keep _ _ nsh nsp esp
    have pR9 : Paired (fun t (v : List Int) => H9 t = some (.lst (v.map V.int))) ts R := mat_move pR fun t v ht e => keep _ _ (offR t ht) (fun z => by rw [new _ z] at e; cases e) (s78 _ _ e)
    have RS := spo.rows
    have RBS := spo.rowB ok hn10
    have lS := spo.len
    have lpS := Paired.length pS
    have hset := CfM.settled_all RS h8 RBS
    clear keep pR psp el eD esp P8 P7
    have rowsF : RowsAt false H9 sp S := ⟨tsp, esp9, pS⟩
    refine seq_split (fun σ' Hc => ∃ hn : Addr, σ' = [some (.ref a), some (.ref c), some (.ref hd), some (.int (wd : Int)), some (.int (sz : Int)), z5, some (.ref D), some (.ref l), some (.ref sp), z9, z10, some (.ref hn), none, none, none, none, none] ∧ Same H9 Hc ∧ RowsAt true Hc hn S) (fun σ' Hc hC => ?_) (fun nx hnx => ?_)
    rotate_left
    · refine ⟨.ref sp, rfl, sp, rfl, ⟨_, .inl (.inl esp9)⟩, fun hn hnew => ?_⟩
      refine lc_mat (fun v => .tup (v.map V.int)) (goes_list (K := K) (.inl (.inl esp9))) hnew (by rw [List.length_map]; omega) S (by rw [List.length_map]; omega) (fun i v H3 hi s3 it post hp => ?_) (fun Hc th sc eh ph => hnx _ _ ⟨hn, rfl, sc, th, eh, ph⟩)
      rw [List.length_map] at hi
      obtain ⟨t, et, e⟩ := mat_row pS (i := i) (by omega)
      rw [List.getElem?_map, et] at it
      have it := (Option.some.inj it).symm
      subst it
      exact ⟨rfl, .ref t, rfl, t, _, rfl, .inl ⟨.inl (.inl (s3 _ _ e)), fun l hl => hp l _ (same_upd hl) hl upd_same⟩⟩
    obtain ⟨hn, rfl, sc, rowshn⟩ := hC
    have el9 := sc _ _ el9
    have eD9 := sc _ _ eD9
    have esp9 := sc _ _ esp9
    have pR9 := mat_same sc pR9
    have pS := mat_same sc pS
    have rowsF := rowsF.same sc
    clear sc
    generalize Hc = Ha at *
    refine seq_split (fun σ' Hc => ∃ p : Addr, σ' = [some (.ref a), some (.ref c), some (.ref hd), some (.int (wd : Int)), some (.int (sz : Int)), z5, some (.ref D), some (.ref l), some (.ref sp), z9, z10, some (.ref hn), some (.ref p), none, none, none, none] ∧ Same Ha Hc ∧ ResAt Hc p (CfM.settledM S wd)) (fun σ' Hc hC => ?_) (fun nx hnx => ⟨.ref hn, rfl, .int (wd : Int), rfl, rfl, rfl, hn, true, S, wd, rfl, rowshn, h8, by omega, RS, RBS, fun Hc p sc hres => hnx _ _ ⟨p, rfl, sc, hres⟩⟩)
    obtain ⟨p, rfl, sc, hresp⟩ := hC
    have el9 := sc _ _ el9
    have eD9 := sc _ _ eD9
    have esp9 := sc _ _ esp9
    have pR9 := mat_same sc pR9
    have pS := mat_same sc pS
    have rowsF := rowsF.same sc
    have rowshn := rowshn.same sc
    clear sc
    generalize Hc = Hb at *
    refine seq_split (fun σ' Hc => σ' = [some (.ref a), some (.ref c), some (.ref hd), some (.int (wd : Int)), some (.int (sz : Int)), z5, some (.ref D), some (.ref l), some (.ref sp), z9, z10, some (.ref hn), some (.ref p), none, none, none, none] ∧ Same Hb Hc) (fun σ' Hc hC => ?_) (fun nx hnx => ?_)
    rotate_left
    · rcases hset with ⟨pt, mv, rd, e, ok2, BB, m8⟩ | ⟨ws, d, e, ok2, hd2⟩
      · rw [e] at hresp
        exact ⟨.ref sp, rfl, .ref p, rfl, .int (wd : Int), rfl, sp, p, S, wd, rfl, rowsF, by omega, h8, RS, RBS, .inl ⟨pt, mv, rd, hresp, ok2, BB, m8, fun Hc sc => ⟨_, rfl, iteF (iteF (hnx _ _ ⟨rfl, sc⟩))⟩⟩⟩
      · rw [e] at hresp
        exact ⟨.ref sp, rfl, .ref p, rfl, .int (wd : Int), rfl, sp, p, S, wd, rfl, rowsF, by omega, h8, RS, RBS, .inr ⟨ws, d, hresp, fun Hc sc => ⟨_, rfl, iteT ⟨.ref sp, rfl, .ref p, rfl, .int (wd : Int), rfl, sp, p, S, wd, rfl, rowsF.same sc, by omega, h8, RS, RBS, ws, d, RestAt.same sc hresp, ok2, hd2, fun Hd sd => ⟨_, rfl, iteF (hnx _ _ ⟨rfl, sc.trans sd⟩)⟩⟩⟩⟩⟩
    obtain ⟨rfl, sc⟩ := hC
    have el9 := sc _ _ el9
    have eD9 := sc _ _ eD9
    have esp9 := sc _ _ esp9
    have pR9 := mat_same sc pR9
    have pS := mat_same sc pS
    have rowsF := rowsF.same sc
    have rowshn := rowshn.same sc
    have hresp := hresp.same sc
    clear sc
    generalize Hc = Hd at *
    refine seq_split (fun σ' Hc => σ' = [some (.ref a), some (.ref c), some (.ref hd), some (.int (wd : Int)), some (.int (sz : Int)), z5, some (.ref D), some (.ref l), some (.ref sp), z9, z10, some (.ref hn), some (.ref p), none, none, none, none] ∧ Same Hd Hc) (fun σ' Hc hC => ?_) (fun nx hnx => ?_)
    rotate_left
    · rcases hset with ⟨pt, mv, rd, e, ok2, BB, m8⟩ | ⟨ws, d, e, ok2, hd2⟩
      · rw [e] at hresp
        obtain ⟨b1, b2, b3, ep, epr⟩ := hresp
        refine ⟨.ref hn, rfl, .ref p, rfl, .int (wd : Int), rfl, rfl, rfl, hn, p, true, S, wd, rfl, rowshn, by omega, h8, RS, RBS, .inl ⟨pt, mv, rd, ⟨b1, b2, b3, ep, epr⟩, fun Hd sd => ?_⟩⟩
        exact ⟨.ref p, rfl, p, _, 0, .str "base", rfl, rfl, .inl (.inl (sd _ _ ep)), atI_nat (j := 0) rfl, rfl, false, congrArg (fun b => [V.bl false, V.bl b]) str_br, _, rfl, iteF (hnx _ _ ⟨rfl, sd⟩)⟩
      · rw [e] at hresp
        obtain ⟨b1, ep, epr⟩ := hresp
        refine ⟨.ref hn, rfl, .ref p, rfl, .int (wd : Int), rfl, rfl, rfl, hn, p, true, S, wd, rfl, rowshn, by omega, h8, RS, RBS, .inr ⟨ws, d, ⟨b1, ep, epr⟩, ok2, hd2, fun Hd sd => ?_⟩⟩
        exact ⟨.ref p, rfl, p, _, 0, .str "rest", rfl, rfl, .inl (.inl (sd _ _ ep)), atI_nat (j := 0) rfl, rfl, true, congrArg (fun b => [V.bl true, V.bl b]) str_rr, _, rfl, iteF (hnx _ _ ⟨rfl, sd⟩)⟩
    obtain ⟨rfl, sc⟩ := hC
    have el9 := sc _ _ el9
    have eD9 := sc _ _ eD9
    have esp9 := sc _ _ esp9
    have pR9 := mat_same sc pR9
    have pS := mat_same sc pS
    have rowsF := rowsF.same sc
    have rowshn := rowshn.same sc
    have hresp := hresp.same sc
    clear sc
    generalize Hc = He at *
    refine seq_split (fun σ' Hc => ∃ li : Addr, σ' = [some (.ref a), some (.ref c), some (.ref hd), some (.int (wd : Int)), some (.int (sz : Int)), z5, some (.ref D), some (.ref l), some (.ref sp), z9, z10, some (.ref hn), some (.ref p), some (.ref li), none, none, none] ∧ Same He Hc ∧ RowsAt false Hc li S) (fun σ' Hc hC => ?_) (fun nx hnx => ?_)
    rotate_left
    · refine ⟨.ref sp, rfl, sp, rfl, ⟨_, .inl (.inl esp9)⟩, fun li hnew => ?_⟩
      refine lc_mat (fun v => .lst (v.map V.int)) (goes_list (K := K) (.inl (.inl esp9))) hnew (by rw [List.length_map]; omega) S (by rw [List.length_map]; omega) (fun i v H3 hi s3 it post hp => ?_) (fun Hc th sc eh ph => hnx _ _ ⟨li, rfl, sc, th, eh, ph⟩)
      rw [List.length_map] at hi
      obtain ⟨t, et, e⟩ := mat_row pS (i := i) (by omega)
      rw [List.getElem?_map, et] at it
      have it := (Option.some.inj it).symm
      subst it
      exact ⟨rfl, .ref t, rfl, t, _, rfl, .inl (.inl (.inl (s3 _ _ e))), fun l hl => hp l _ (same_upd hl) hl upd_same⟩
    obtain ⟨li, rfl, sc, rowsli⟩ := hC
    have el9 := sc _ _ el9
    have eD9 := sc _ _ eD9
    have esp9 := sc _ _ esp9
    have pR9 := mat_same sc pR9
    have pS := mat_same sc pS
    have rowsF := rowsF.same sc
    have rowshn := rowshn.same sc
    have hresp := hresp.same sc
    clear sc
    generalize Hc = Hf at *
    refine seq_split (fun σ' Hc => ∃ o : Addr, σ' = [some (.ref a), some (.ref c), some (.ref hd), some (.int (wd : Int)), some (.int (sz : Int)), z5, some (.ref D), some (.ref l), some (.ref sp), z9, z10, some (.ref hn), some (.ref p), some (.ref li), some (.ref o), none, none] ∧ Same Hf Hc ∧ ResAt Hc o (CfM.settledM S wd)) (fun σ' Hc hC => ?_) (fun nx hnx => ⟨.ref li, rfl, .int (wd : Int), rfl, rfl, rfl, li, false, S, wd, rfl, rowsli, h8, by omega, RS, RBS, fun Hc o sc hres => hnx _ _ ⟨o, rfl, sc, hres⟩⟩)
    obtain ⟨o, rfl, sc, hreso⟩ := hC
    have el9 := sc _ _ el9
    have eD9 := sc _ _ eD9
    have esp9 := sc _ _ esp9
    have pR9 := mat_same sc pR9
    have pS := mat_same sc pS
    have rowsF := rowsF.same sc
    have rowshn := rowshn.same sc
    have hresp := hresp.same sc
    have rowsli := rowsli.same sc
    clear sc
    generalize Hc = Hg at *
    refine seq_split (fun σ' Hc => σ' = [some (.ref a), some (.ref c), some (.ref hd), some (.int (wd : Int)), some (.int (sz : Int)), z5, some (.ref D), some (.ref l), some (.ref sp), z9, z10, some (.ref hn), some (.ref p), some (.ref li), some (.ref o), none, none] ∧ Same Hg Hc) (fun σ' Hc hC => ?_) (fun nx hnx => ?_)
    rotate_left
    · rcases hset with ⟨pt, mv, rd, e, ok2, BB, m8⟩ | ⟨ws, d, e, ok2, hd2⟩
      · rw [e] at hreso
        exact ⟨.ref sp, rfl, .ref o, rfl, .int (wd : Int), rfl, sp, o, S, wd, rfl, rowsF, by omega, h8, RS, RBS, .inl ⟨pt, mv, rd, hreso, ok2, BB, m8, fun Hc sc => ⟨_, rfl, iteF (iteF (hnx _ _ ⟨rfl, sc⟩))⟩⟩⟩
      · rw [e] at hreso
        exact ⟨.ref sp, rfl, .ref o, rfl, .int (wd : Int), rfl, sp, o, S, wd, rfl, rowsF, by omega, h8, RS, RBS, .inr ⟨ws, d, hreso, fun Hc sc => ⟨_, rfl, iteT ⟨.ref sp, rfl, .ref o, rfl, .int (wd : Int), rfl, sp, o, S, wd, rfl, rowsF.same sc, by omega, h8, RS, RBS, ws, d, RestAt.same sc hreso, ok2, hd2, fun Hd sd => ⟨_, rfl, iteF (hnx _ _ ⟨rfl, sc.trans sd⟩)⟩⟩⟩⟩⟩
    obtain ⟨rfl, sc⟩ := hC
    have el9 := sc _ _ el9
    have eD9 := sc _ _ eD9
    have esp9 := sc _ _ esp9
    have pR9 := mat_same sc pR9
    have pS := mat_same sc pS
    have rowsF := rowsF.same sc
    have rowshn := rowshn.same sc
    have hresp := hresp.same sc
    have rowsli := rowsli.same sc
    have hreso := hreso.same sc
    clear sc
    generalize Hc = Hh at *
    refine seq_split (fun σ' Hc => σ' = [some (.ref a), some (.ref c), some (.ref hd), some (.int (wd : Int)), some (.int (sz : Int)), z5, some (.ref D), some (.ref l), some (.ref sp), z9, z10, some (.ref hn), some (.ref p), some (.ref li), some (.ref o), none, none] ∧ Same Hh Hc) (fun σ' Hc hC => ?_) (fun nx hnx => ?_)
    rotate_left
    · rcases hset with ⟨pt, mv, rd, e, ok2, BB, m8⟩ | ⟨ws, d, e, ok2, hd2⟩
      · rw [e] at hreso hresp
        obtain ⟨b1, b2, b3, ep, epr⟩ := hreso
        obtain ⟨c1, c2, c3, eq, eqr⟩ := hresp
        refine ⟨.ref o, rfl, o, _, 0, .str "base", rfl, rfl, .inl (.inl ep), atI_nat (j := 0) rfl, .ref p, rfl, p, _, 0, .str "base", rfl, rfl, .inl (.inl eq), atI_nat (j := 0) rfl, rfl, _, rfl, ?_⟩
        rw [decide_eq_true rfl]
        refine iteF ?_
        refine ⟨.ref li, rfl, .ref o, rfl, .int (wd : Int), rfl, rfl, rfl, li, o, false, S, wd, rfl, rowsli, by omega, h8, RS, RBS, .inl ⟨pt, mv, rd, ⟨b1, b2, b3, ep, epr⟩, fun Hd sd => ?_⟩⟩
        exact ⟨.ref p, rfl, p, _, 0, .str "base", rfl, rfl, .inl (.inl (sd _ _ eq)), atI_nat (j := 0) rfl, rfl, false, congrArg (fun b => [V.bl false, V.bl b]) str_br, _, rfl, iteF (hnx _ _ ⟨rfl, sd⟩)⟩
      · rw [e] at hreso hresp
        obtain ⟨b1, ep, epr⟩ := hreso
        obtain ⟨c1, eq, eqr⟩ := hresp
        refine ⟨.ref o, rfl, o, _, 0, .str "rest", rfl, rfl, .inl (.inl ep), atI_nat (j := 0) rfl, .ref p, rfl, p, _, 0, .str "rest", rfl, rfl, .inl (.inl eq), atI_nat (j := 0) rfl, rfl, _, rfl, ?_⟩
        rw [decide_eq_true rfl]
        refine iteF ?_
        refine ⟨.ref li, rfl, .ref o, rfl, .int (wd : Int), rfl, rfl, rfl, li, o, false, S, wd, rfl, rowsli, by omega, h8, RS, RBS, .inr ⟨ws, d, ⟨b1, ep, epr⟩, ok2, hd2, fun Hd sd => ?_⟩⟩
        exact ⟨.ref p, rfl, p, _, 0, .str "rest", rfl, rfl, .inl (.inl (sd _ _ eq)), atI_nat (j := 0) rfl, rfl, true, congrArg (fun b => [V.bl true, V.bl b]) str_rr, _, rfl, iteF (hnx _ _ ⟨rfl, sd⟩)⟩
    obtain ⟨rfl, sc⟩ := hC
    have el9 := sc _ _ el9
    have eD9 := sc _ _ eD9
    have esp9 := sc _ _ esp9
    have pR9 := mat_same sc pR9
    have pS := mat_same sc pS
    have rowsF := rowsF.same sc
    have rowshn := rowshn.same sc
    have hresp := hresp.same sc
    have rowsli := rowsli.same sc
    have hreso := hreso.same sc
    clear sc
    generalize Hc = Hi at *
    -- lists != spoilt
    have ndS := nice_list (nice_map _ (nice_row false) S)
    refine seq_split (fun σ' Hc => σ' = [some (.ref a), some (.ref c), some (.ref hd), some (.int (wd : Int)), some (.int (sz : Int)), z5, some (.ref D), some (.ref l), some (.ref sp), z9, z10, some (.ref hn), some (.ref p), some (.ref li), some (.ref o), none, none] ∧ Same Hi Hc) (fun σ' Hc hC => ?_) (fun nx hnx => ?_)
    rotate_left
    · refine ⟨.ref li, rfl, .ref sp, rfl, _, _, dp_rows rowsli, dp_rows rowsF, ndS.shaped (by decide), ndS.shaped (by decide), _, rfl, ?_⟩
      rw [ndS.same]
      exact iteF (hnx _ _ ⟨rfl, Same.refl _⟩)
    obtain ⟨rfl, sc⟩ := hC
    have el9 := sc _ _ el9
    have eD9 := sc _ _ eD9
    have esp9 := sc _ _ esp9
    have pR9 := mat_same sc pR9
    have pS := mat_same sc pS
    have rowsF := rowsF.same sc
    have rowshn := rowshn.same sc
    have hresp := hresp.same sc
    have rowsli := rowsli.same sc
    have hreso := hreso.same sc
    clear sc
    generalize Hc = Hj at *
    -- the elder
    obtain ⟨pt, mv, rd, eE, okE, BBE, mE8, spE⟩ := CfM.elder_all ok.rows h8 ok.rowB (x := vals) ⟨hvl, ok.at_⟩
    refine seq_split (fun σ' Hc => ∃ e : Addr, σ' = [some (.ref a), some (.ref c), some (.ref hd), some (.int (wd : Int)), some (.int (sz : Int)), z5, some (.ref D), some (.ref l), some (.ref sp), z9, z10, some (.ref hn), some (.ref p), some (.ref li), some (.ref o), some (.ref e), none] ∧ Same Hj Hc ∧ BaseAt Hc e pt mv rd) (fun σ' Hc hC => ?_) (fun nx hnx => ?_)
    rotate_left
    · refine ⟨.ref l, rfl, l, rfl, ⟨_, .inl (.inl el9)⟩, fun er hnew => ?_⟩
      refine lc_mat (fun v => .lst (v.map V.int)) (goes_list (K := K) (.inl (.inl el9))) hnew (by rw [List.length_map]; omega) R (by rw [List.length_map]; omega) (fun i v H3 hi s3 it post hp => ?_) (fun Hc th sc eh ph => ?_)
      · rw [List.length_map] at hi
        obtain ⟨t, et, e⟩ := mat_row pR9 (i := i) (by omega)
        rw [List.getElem?_map, et] at it
        have it := (Option.some.inj it).symm
        subst it
        exact ⟨rfl, .ref t, rfl, t, _, rfl, .inl (.inl (.inl (s3 _ _ e))), fun l hl => hp l _ (same_upd hl) hl upd_same⟩
      · refine ⟨.int (wd : Int), rfl, rfl, rfl, er, false, R, wd, rfl, ⟨th, eh, ph⟩, h8, by omega, ok.rows, ok.rowB, fun Hd e sd hres => hnx _ _ ⟨e, rfl, sc.trans sd, ?_⟩⟩
        rw [eE] at hres
        exact hres
    obtain ⟨e, rfl, sc, hrese⟩ := hC
    have el9 := sc _ _ el9
    have eD9 := sc _ _ eD9
    have esp9 := sc _ _ esp9
    have pR9 := mat_same sc pR9
    have pS := mat_same sc pS
    have rowsF := rowsF.same sc
    have rowshn := rowshn.same sc
    have hresp := hresp.same sc
    have rowsli := rowsli.same sc
    have hreso := hreso.same sc
    clear sc
    generalize Hc = Hk at *
    have hml := okE.ml
    have hrl := okE.rl
    have hsm := okE.same
    refine seq_split (fun σ' Hc => σ' = [some (.ref a), some (.ref c), some (.ref hd), some (.int (wd : Int)), some (.int (sz : Int)), z5, some (.ref D), some (.ref l), some (.ref sp), z9, z10, some (.ref hn), some (.ref p), some (.ref li), some (.ref o), some (.ref e), none] ∧ Same Hk Hc) (fun σ' Hc hC => ?_) (fun nx hnx => ?_)
    rotate_left
    · refine ⟨.ref l, rfl, .ref e, rfl, .int (wd : Int), rfl, l, e, R, wd, rfl, ⟨ts, el9, pR9⟩, by omega, h8, ok.rows, ok.rowB, .inl ⟨pt, mv, rd, hrese, okE, BBE, mE8, fun Hc sc => ⟨_, rfl, iteF ?_⟩⟩⟩
      have vb40 : ∀ i, (CfM.g vals i).natAbs ≤ 2 ^ 40 := fun i => Nat.le_trans (hvb i) (by decide)
      refine ⟨.ref e, rfl, .ref e, rfl, .ref D, rfl, e, D, pt, mv, rd, vals, wd, rfl, hrese.same sc, sc _ _ eD9, BBE, okE.pl, hvl, h8, by omega, hrl, vb40, fun Hd tl sd etl => ?_⟩
      refine ⟨e, tl, pt, mv, rd, CfM.timesM pt rd vals, wd, rfl, (hrese.same sc).same sd, etl, BBE, okE.pl, h8, hml, by unfold CfM.timesM; rw [List.length_map]; exact hsm, times_bd h8 (by rw [hvl, okE.pl]) okE.pl vb40 BBE.point BBE.reads hrl, fun He2 p2 se2 ep2 => ?_⟩
      rw [spE] at ep2
      have s3 := (sc.trans sd).trans se2
      have ndV := nice_tup (n := 0) (nice_ints vals)
      refine ⟨.ref D, rfl, D, _, rfl, .inl ⟨.inl (.inl (s3 _ _ eD9)), fun t ht => ?_⟩⟩
      refine ⟨_, _, dp_tuprow (same_upd ht _ _ ep2), dp_tuprow upd_same, ndV.shaped (by decide), ndV.shaped (by decide), _, rfl, ?_⟩
      rw [ndV.same]
      exact iteF (hnx _ _ ⟨rfl, s3.trans (same_upd ht)⟩)
    obtain ⟨rfl, sc⟩ := hC
    have el9 := sc _ _ el9
    have eD9 := sc _ _ eD9
    have esp9 := sc _ _ esp9
    have pR9 := mat_same sc pR9
    have pS := mat_same sc pS
    have rowsF := rowsF.same sc
    have rowshn := rowshn.same sc
    have hresp := hresp.same sc
    have rowsli := rowsli.same sc
    have hreso := hreso.same sc
    have hrese := hrese.same sc
    clear sc
    generalize Hc = Hl at *
    have ndR := nice_res (CfM.settledM S wd)
    have ndT := nice_list (nice_map _ (nice_row true) S)
    refine ⟨.ref hn, rfl, .int (wd : Int), rfl, rfl, rfl, hn, true, S, wd, rfl, rowshn, h8, by omega, RS, RBS, fun Hc p3 sc hres3 => ?_⟩
    refine ⟨.ref p, rfl, _, _, dp_res hres3, dp_res (hresp.same sc), ndR.shaped (by decide), ndR.shaped (by decide), _, rfl, ?_⟩
    rw [ndR.same]
    refine iteT ?_
    have esp9 := sc _ _ esp9
    have pS := mat_same sc pS
    refine ⟨.ref hn, rfl, .ref sp, rfl, sp, rfl, ⟨_, .inl (.inl esp9)⟩, fun hn2 hnew => ?_⟩
    refine lc_mat (fun v => .tup (v.map V.int)) (goes_list (K := K) (.inl (.inl esp9))) hnew (by rw [List.length_map]; omega) S (by rw [List.length_map]; omega) (fun i v H3 hi s3 it post hp => ?_) (fun Hd th sd eh ph => ?_)
    · rw [List.length_map] at hi
      obtain ⟨t, et, e⟩ := mat_row pS (i := i) (by omega)
      rw [List.getElem?_map, et] at it
      have it := (Option.some.inj it).symm
      subst it
      exact ⟨rfl, .ref t, rfl, t, _, rfl, .inl ⟨.inl (.inl (s3 _ _ e)), fun l hl => hp l _ (same_upd hl) hl upd_same⟩⟩
    · have rn : RowsAt true Hd hn2 S := ⟨th, eh, ph⟩
      refine ⟨_, _, dp_rows ((rowshn.same sc).same sd), dp_rows rn, ndT.shaped (by decide), ndT.shaped (by decide), ?_⟩
      rw [ndT.same]
      exact q _
end
end CfW

namespace CfW
open PySem PySem.Spec PyProof.Rows L2 CfX
/-! ### the law's call, where the base is also known to have no seer (the layer's own ends do not tell it) -/
section
variable {P : Program} {w : World} {K : PySem.W.Frag} {mg mb : Str → Option Value} {k : Nat} {fa a : Addr} {fd : FuncData} {x : Str} {sp : Sp} {s1 : Shared} {vs : List Value} {ns : List Int}
/-- one address at most is tracked, and a list stands there -/
structure OneAt (H : Hp) (h : Heap) (a : Addr) : Prop where
  one : ∀ b, H b ≠ none → b = a
  lst : ∃ o vs n, h.get? a = some o ∧ o.cls = .type "list" ∧ o.data = .seq vs n
theorem OneAt.free {H : Hp} {h : Heap} (O : OneAt H h a) {b : Addr} {o : Obj} (e : h.get? b = some o) (hn : o.cls ≠ .type "list" ∨ ∀ vs n, o.data ≠ .seq vs n) : (hidT h H).get? b = some o := by
  refine hidT_get e ?_
  cases q : H b with
  | none => rfl
  | some u =>
    exfalso
    obtain ⟨o2, us, n, e2, c, d⟩ := O.lst
    have eb := O.one b (fun z => by rw [q] at z; cases z)
    rw [eb, e2] at e
    have eo := Option.some.inj e
    subst eo
    rcases hn with z | z
    · exact z c
    · exact z us n d
theorem OneAt.spaces {H : Hp} {h : Heap} (O : OneAt H h a) {b : Addr} {m : Str → Option Value} (N : h.Ns b m) : (hidT h H).Ns b m := by
  obtain ⟨o, es, ep, e, d, r⟩ := N
  exact ⟨o, es, ep, O.free e (.inr fun us n z => by rw [d] at z; cases z), d, r⟩
theorem OneAt.seer {H : Hp} {h : Heap} (O : OneAt H h a) (S : h.NoSeer) : (hidT h H).NoSeer := by
  obtain ⟨mc, c1, c2⟩ := S.statics
  obtain ⟨mm, m1, m2⟩ := S.mods
  obtain ⟨mi, i1, i2⟩ := S.imp
  obtain ⟨g, bm, ob, g1, g2, g3, g4, g5⟩ := S.main
  exact ⟨⟨mc, O.spaces c1, c2⟩, ⟨mm, O.spaces m1, m2⟩, ⟨mi, O.spaces i1, i2⟩, ⟨g, bm, ob, O.spaces g1, g2, O.free g3 (.inl fun z => by rw [g4] at z; simp at z), g4, g5⟩⟩
/-- the call at one abstract heap -/
theorem call_at (KX : K.In s1.heap) (N1 : s1.heap.Ns mainGlobals mg) (N2 : s1.heap.Ns builtinsNs mb) (B : ∀ y : Str, y ≠ "__name__" → mb y = bootBuiltins y) (L : s1.heap.NoLimit) (S : s1.heap.NoSeer) (G : s1.gens = #[]) (hr : Room k callerA)
    (F : ∀ base : Heap, K.In base → base.Ns mainGlobals mg → base.NoSeer → FnOk P w K mg base CX0 k fa fd [x] sp) (hbind : ∀ (s : Shared) (u : Value), BindsTo s fd ⟨[u], []⟩ [(x, u)])
    {H : Hp} (hO : Only H) (hs : sp [.ref a] H (fun v _ => v = .bl true) fun _ _ _ => False) (hok : HOk P w H s1.heap) (O : OneAt H s1.heap a) (hK : H a ≠ none → K.lookup a = none) :
    codeAny (model P w) callerA (.call (.ref fa) ⟨[.ref a], []⟩) (fun r s' => r = .ok (.ret (.bool true)) ∧ OldK s1.heap s'.heap ∧ s'.os = s1.os ∧ AllBare s'.gens) s1 := by
  have KB : K.In (hidT s1.heap H) := fun b o e => by
    refine hidT_get (KX b o e) ?_
    cases q : H b with
    | none => rfl
    | some u =>
      have ne : H b ≠ none := fun z => by rw [q] at z; cases z
      have eb := O.one b ne
      rw [eb] at e ne
      rw [hK ne] at e
      cases e
  obtain ⟨ml, l1, l2⟩ := L
  have M : Mod K mg (hidT s1.heap H) := ⟨KB, O.spaces N1, ⟨mb, O.spaces N2, B⟩, ⟨ml, O.spaces l1, l2⟩⟩
  have none_in : ∀ b : Addr, b ∈ ([] : List Addr) → False := fun b z => by cases z
  have E0 : Env0 P w K mg (hidT s1.heap H) callerA [] s1 H := ⟨rfl, M, fun b o e => of_hidT e, Nat.le_of_eq (hidT_size _ _), trivial, fun b z => (none_in b z).elim, hok, .of_eq G⟩
  have run := (F _ KB (O.spaces N1) (O.seer S)).run callerA [] s1 H ⟨[.ref a], []⟩ [.ref a] [.ref a] _ _ hr E0 (hbind s1 (.ref a)) (.cons rfl .nil) hs
  refine codeAny_mono run fun r s' hq => ?_
  match r, hq with
  | .error e, hq => exact False.elim hq
  | .ok .next, hq => exact False.elim hq
  | .ok .brk, hq => exact False.elim hq
  | .ok .cont, hq => exact False.elim hq
  | .ok (.ret u), hq =>
    obtain ⟨v, H2, os, bare, un, hok2, rel, q⟩ := hq
    have q : v = .bl true := q
    subst q
    have eu : u = Value.bool true := rel
    subst eu
    refine ⟨rfl, OldK.of_keep fun b o e => ?_, os, bare⟩
    rcases hO b with z | ⟨ob, xs, z⟩
    · exact un.keep b o e z (fun y => (none_in b y).elim) (fun y => by cases y)
    · have z2 := un.frzs b ob _ z
      have e1 := (hok b _ z).1
      rw [e] at e1
      have eo := Option.some.inj e1
      subst eo
      exact (hok2 b _ z2).1
/-- the call -/
theorem call_true (KX : K.In s1.heap) (N1 : s1.heap.Ns mainGlobals mg) (N2 : s1.heap.Ns builtinsNs mb) (B : ∀ y : Str, y ≠ "__name__" → mb y = bootBuiltins y) (L : s1.heap.NoLimit) (S : s1.heap.NoSeer) (G : s1.gens = #[]) (hr : Room k callerA)
    (F : ∀ base : Heap, K.In base → base.Ns mainGlobals mg → base.NoSeer → FnOk P w K mg base CX0 k fa fd [x] sp) (hbind : ∀ (s : Shared) (u : Value), BindsTo s fd ⟨[u], []⟩ [(x, u)])
    (ha : s1.heap.get? a = some { cls := .type "list", data := .seq vs.toArray }) (hi : IntsAre vs ns) (hl : ns.length ≤ sizeLine)
    (hs : ∀ H : Hp, Only H → SqL K H a (ns.map V.int) → sp [.ref a] H (fun v _ => v = .bl true) fun _ _ _ => False) :
    codeAny (model P w) callerA (.call (.ref fa) ⟨[.ref a], []⟩) (fun r s' => r = .ok (.ret (.bool true)) ∧ OldK s1.heap s'.heap ∧ s'.os = s1.os ∧ AllBare s'.gens) s1 := by
  have rv := vals_ints hi
  have lv := hi.length
  have ll : ∃ o us n, s1.heap.get? a = some o ∧ o.cls = .type "list" ∧ o.data = .seq us n := ⟨_, _, _, ha, rfl, rfl⟩
  cases hk : K.lookup a with
  | some o =>
    have e := KX a o hk
    rw [ha] at e
    have eo := Option.some.inj e
    subst eo
    have hO : Only fun _ => none := fun _ => .inl rfl
    exact call_at KX N1 N2 B L S G hr F hbind hO (hs _ hO (.inr ⟨_, vs.toArray, _, hk, rfl, rfl, rfl, by rw [List.size_toArray, lv]; exact hl, by simpa using rv⟩)) (fun b u z => by cases z) ⟨fun b z => absurd rfl z, ll⟩ fun z => absurd rfl z
  | none =>
    have at_a : (fun b => if b = a then some (HO.frz { cls := .type "list", data := .seq vs.toArray } (.lst (ns.map V.int))) else none : Hp) a = some (.frz { cls := .type "list", data := .seq vs.toArray } (.lst (ns.map V.int))) := if_pos rfl
    have off : ∀ b, b ≠ a → (fun b => if b = a then some (HO.frz { cls := .type "list", data := .seq vs.toArray } (.lst (ns.map V.int))) else none : Hp) b = none := fun b n => if_neg n
    generalize (fun b => if b = a then some (HO.frz { cls := .type "list", data := .seq vs.toArray } (.lst (ns.map V.int))) else none : Hp) = H at *
    have hO : Only H := fun b => by
      by_cases e : b = a
      · exact .inr ⟨_, _, by rw [e]; exact at_a⟩
      · exact .inl (off b e)
    refine call_at KX N1 N2 B L S G hr F hbind hO (hs _ hO (.inl (.inr ⟨_, at_a⟩))) (fun b u z => ?_) ⟨fun b z => ?_, ll⟩ fun _ => hk
    · by_cases e : b = a
      · subst e
        rw [at_a] at z
        have eu := Option.some.inj z
        subst eu
        exact ⟨ha, by rw [List.length_map]; exact hl, vs, _, rv, ha⟩
      · rw [off b e] at z
        cases z
    · by_cases e : b = a
      · exact e
      · exact absurd (off b e) z
end
/-- a law row's end with that -/
theorem walk_seer {l : PySem.W.OpenLaw} {n k : Nat} {q : Program} {loose : List Str} {XP : (Str → Option Value) → Heap → Prop} {YP : World → Heap → Prop} {d : DefRec} {K : PySem.Params → PySem.W.Frag} {sp : World → Sp} {x : Str}
    (hn : l.most = some n) (hn2 : n ≤ sizeLine) (hdf : d.params.defaults = []) (hr : Room k callerA) (hi : importsNone q = true) (hY : ∀ (w : World) (h : Heap), YP w h → (K w.params).In h)
    (F : ∀ (w : World) (mg : Str → Option Value) (fa : Addr) (h : Heap), (K w.params).In h → h.Ns mainGlobals mg → mg d.name = some (.ref fa) →
      ∃ fd : FuncData, (∀ (s : Shared) (u : Value), BindsTo s fd ⟨[u], []⟩ [(x, u)]) ∧ ∀ base : Heap, (K w.params).In base → base.Ns mainGlobals mg → base.NoSeer → FnOk l.prog w (K w.params) mg base CX0 k fa fd [x] (sp w))
    (hs : ∀ (w : World) (H : Hp) (a : Addr) (ns : List Int), ns.length ≤ n → Only H → SqL (K w.params) H a (ns.map V.int) → sp w [.ref a] H (fun v _ => v = .bl true) fun _ _ _ => False) :
    PySem.W.WalkO q loose XP YP l.row.toRowW d [] (fun f vs => PySem.call f vs) := by
  refine Att.attach_call hn hdf fun w s0 s1 mg mb fa o pm cd doc a vs ns G Y ho hd hcd hmg hobj hints hlen hg => ?_
  obtain ⟨fd, hb, hF⟩ := F w mg fa _ (hY w _ Y) G.T.g hmg
  exact call_true (hY w _ Y) G.T.g G.T.b G.T.builtins G.T.nolimit (G.T.seer hi) hg hr hF hb hobj hints (Nat.le_trans hlen hn2) fun H hO hS => hs w H a ns hlen hO hS
end CfW

namespace CfW
open PySem PySem.Spec PyProof.Rows L2 CfX
theorem isw_mk {K : PySem.W.Frag} {f D : Addr} {oc : Value} {od an : Option Addr} {osl : Array (Option Value)} {doc pm cdv ct : Value} (l : K.lookup f = some ⟨oc, od, .func (PySem.W.fnOf "is_whole" "is_whole" (defArgs sWhole) (defBody sWhole) (defScope sWhole) .none (.ref D) doc pm an cdv ct), osl⟩)
    (c : PySem.W.codeIn K cdv "is_whole" = true) (kp : PySem.W.keepIn K (.ref f) = true) (w1 : PySem.W.nsIn K D "least" = some (some .none)) (w2 : PySem.W.nsIn K D "most" = some (some .none)) :
    IsW K f (PySem.W.fnOf "is_whole" "is_whole" (defArgs sWhole) (defBody sWhole) (defScope sWhole) .none (.ref D) doc pm an cdv ct) := by
  refine ⟨⟨oc, od, .none, .ref D, doc, pm, an, cdv, ct, osl, rfl, l, c, .inl ⟨rfl, rfl⟩, .inr ⟨D, rfl, fun q hq => ?_⟩⟩, kp⟩
  rcases List.mem_cons.mp hq with e | hq
  · subst e
    exact ⟨_, w1, rfl⟩
  · rcases List.mem_cons.mp hq with e | hq
    · subst e
      exact ⟨_, w2, rfl⟩
    · cases hq
theorem all_defs {l : PySem.W.OpenLaw} {w : World} {K : PySem.W.Frag} {h : Heap} {mg : Str → Option Value} {fa : Addr} (tr : l.prog.given.tree = none) (X : K.In h) (G : h.Ns mainGlobals mg) (hfa : mg "law" = some (.ref fa))
    {f_whole : Addr} {od_whole an_whole : Option Addr} {sl_whole : Array (Option Value)} {oc_whole dc_whole pm_whole cd_whole ct_whole : Value} {D_whole : Addr} (a_whole : PySem.W.nsIn K mainGlobals "is_whole" = some (some (.ref f_whole)))
    (l_whole : K.lookup f_whole = some ⟨oc_whole, od_whole, .func (PySem.W.fnOf "is_whole" "is_whole" (defArgs sWhole) (defBody sWhole) (defScope sWhole) .none (.ref D_whole) dc_whole pm_whole an_whole cd_whole ct_whole), sl_whole⟩) (c_whole : PySem.W.codeIn K cd_whole "is_whole" = true) (k_whole : PySem.W.keepIn K (.ref f_whole) = true)
    {f_added : Addr} {od_added an_added : Option Addr} {sl_added : Array (Option Value)} {oc_added dc_added pm_added cd_added ct_added : Value} {kV_added : Value} (a_added : PySem.W.nsIn K mainGlobals "added" = some (some (.ref f_added)))
    (l_added : K.lookup f_added = some ⟨oc_added, od_added, .func (PySem.W.fnOf "added" "added" (defArgs sAdded) (defBody sAdded) (defScope sAdded) .none kV_added dc_added pm_added an_added cd_added ct_added), sl_added⟩) (c_added : PySem.W.codeIn K cd_added "added" = true) (k_added : PySem.W.keepIn K (.ref f_added) = true)
    {f_product : Addr} {od_product an_product : Option Addr} {sl_product : Array (Option Value)} {oc_product dc_product pm_product cd_product ct_product : Value} {kV_product : Value} (a_product : PySem.W.nsIn K mainGlobals "product" = some (some (.ref f_product)))
    (l_product : K.lookup f_product = some ⟨oc_product, od_product, .func (PySem.W.fnOf "product" "product" (defArgs sProduct) (defBody sProduct) (defScope sProduct) .none kV_product dc_product pm_product an_product cd_product ct_product), sl_product⟩) (c_product : PySem.W.codeIn K cd_product "product" = true) (k_product : PySem.W.keepIn K (.ref f_product) = true)
    {f_common : Addr} {od_common an_common : Option Addr} {sl_common : Array (Option Value)} {oc_common dc_common pm_common cd_common ct_common : Value} {kV_common : Value} (a_common : PySem.W.nsIn K mainGlobals "common" = some (some (.ref f_common)))
    (l_common : K.lookup f_common = some ⟨oc_common, od_common, .func (PySem.W.fnOf "common" "common" (defArgs sCommon) (defBody sCommon) (defScope sCommon) .none kV_common dc_common pm_common an_common cd_common ct_common), sl_common⟩) (c_common : PySem.W.codeIn K cd_common "common" = true) (k_common : PySem.W.keepIn K (.ref f_common) = true)
    {f_turned : Addr} {od_turned an_turned : Option Addr} {sl_turned : Array (Option Value)} {oc_turned dc_turned pm_turned cd_turned ct_turned : Value} {kV_turned : Value} (a_turned : PySem.W.nsIn K mainGlobals "turned" = some (some (.ref f_turned)))
    (l_turned : K.lookup f_turned = some ⟨oc_turned, od_turned, .func (PySem.W.fnOf "turned" "turned" (defArgs sTurned) (defBody sTurned) (defScope sTurned) .none kV_turned dc_turned pm_turned an_turned cd_turned ct_turned), sl_turned⟩) (c_turned : PySem.W.codeIn K cd_turned "turned" = true) (k_turned : PySem.W.keepIn K (.ref f_turned) = true)
    {f_weighed : Addr} {od_weighed an_weighed : Option Addr} {sl_weighed : Array (Option Value)} {oc_weighed dc_weighed pm_weighed cd_weighed ct_weighed : Value} {kV_weighed : Value} (a_weighed : PySem.W.nsIn K mainGlobals "weighed" = some (some (.ref f_weighed)))
    (l_weighed : K.lookup f_weighed = some ⟨oc_weighed, od_weighed, .func (PySem.W.fnOf "weighed" "weighed" (defArgs sWeighed) (defBody sWeighed) (defScope sWeighed) .none kV_weighed dc_weighed pm_weighed an_weighed cd_weighed ct_weighed), sl_weighed⟩) (c_weighed : PySem.W.codeIn K cd_weighed "weighed" = true) (k_weighed : PySem.W.keepIn K (.ref f_weighed) = true)
    {f_restby : Addr} {od_restby an_restby : Option Addr} {sl_restby : Array (Option Value)} {oc_restby dc_restby pm_restby cd_restby ct_restby : Value} {kV_restby : Value} (a_restby : PySem.W.nsIn K mainGlobals "rest_by" = some (some (.ref f_restby)))
    (l_restby : K.lookup f_restby = some ⟨oc_restby, od_restby, .func (PySem.W.fnOf "rest_by" "rest_by" (defArgs sRestBy) (defBody sRestBy) (defScope sRestBy) .none kV_restby dc_restby pm_restby an_restby cd_restby ct_restby), sl_restby⟩) (c_restby : PySem.W.codeIn K cd_restby "rest_by" = true) (k_restby : PySem.W.keepIn K (.ref f_restby) = true)
    {f_settled : Addr} {od_settled an_settled : Option Addr} {sl_settled : Array (Option Value)} {oc_settled dc_settled pm_settled cd_settled ct_settled : Value} {kV_settled : Value} (a_settled : PySem.W.nsIn K mainGlobals "settled" = some (some (.ref f_settled)))
    (l_settled : K.lookup f_settled = some ⟨oc_settled, od_settled, .func (PySem.W.fnOf "settled" "settled" (defArgs sSettled) (defBody sSettled) (defScope sSettled) .none kV_settled dc_settled pm_settled an_settled cd_settled ct_settled), sl_settled⟩) (c_settled : PySem.W.codeIn K cd_settled "settled" = true) (k_settled : PySem.W.keepIn K (.ref f_settled) = true)
    {f_shows : Addr} {od_shows an_shows : Option Addr} {sl_shows : Array (Option Value)} {oc_shows dc_shows pm_shows cd_shows ct_shows : Value} {kV_shows : Value} (a_shows : PySem.W.nsIn K mainGlobals "shows_rest" = some (some (.ref f_shows)))
    (l_shows : K.lookup f_shows = some ⟨oc_shows, od_shows, .func (PySem.W.fnOf "shows_rest" "shows_rest" (defArgs sShows) (defBody sShows) (defScope sShows) .none kV_shows dc_shows pm_shows an_shows cd_shows ct_shows), sl_shows⟩) (c_shows : PySem.W.codeIn K cd_shows "shows_rest" = true) (k_shows : PySem.W.keepIn K (.ref f_shows) = true)
    {f_spread : Addr} {od_spread an_spread : Option Addr} {sl_spread : Array (Option Value)} {oc_spread dc_spread pm_spread cd_spread ct_spread : Value} {kV_spread : Value} (a_spread : PySem.W.nsIn K mainGlobals "spread" = some (some (.ref f_spread)))
    (l_spread : K.lookup f_spread = some ⟨oc_spread, od_spread, .func (PySem.W.fnOf "spread" "spread" (defArgs sSpread) (defBody sSpread) (defScope sSpread) .none kV_spread dc_spread pm_spread an_spread cd_spread ct_spread), sl_spread⟩) (c_spread : PySem.W.codeIn K cd_spread "spread" = true) (k_spread : PySem.W.keepIn K (.ref f_spread) = true)
    {f_times : Addr} {od_times an_times : Option Addr} {sl_times : Array (Option Value)} {oc_times dc_times pm_times cd_times ct_times : Value} {kV_times : Value} (a_times : PySem.W.nsIn K mainGlobals "times_of" = some (some (.ref f_times)))
    (l_times : K.lookup f_times = some ⟨oc_times, od_times, .func (PySem.W.fnOf "times_of" "times_of" (defArgs sTimes) (defBody sTimes) (defScope sTimes) .none kV_times dc_times pm_times an_times cd_times ct_times), sl_times⟩) (c_times : PySem.W.codeIn K cd_times "times_of" = true) (k_times : PySem.W.keepIn K (.ref f_times) = true)
    {f_lwhole : Addr} {od_lwhole an_lwhole : Option Addr} {sl_lwhole : Array (Option Value)} {oc_lwhole dc_lwhole pm_lwhole cd_lwhole ct_lwhole : Value} {kV_lwhole : Value} (a_lwhole : PySem.W.nsIn K mainGlobals "_law_whole" = some (some (.ref f_lwhole)))
    (l_lwhole : K.lookup f_lwhole = some ⟨oc_lwhole, od_lwhole, .func (PySem.W.fnOf "_law_whole" "_law_whole" (defArgs sLwhole) (defBody sLwhole) (defScope sLwhole) .none kV_lwhole dc_lwhole pm_lwhole an_lwhole cd_lwhole ct_lwhole), sl_lwhole⟩) (c_lwhole : PySem.W.codeIn K cd_lwhole "_law_whole" = true) (k_lwhole : PySem.W.keepIn K (.ref f_lwhole) = true)
    {f_lpool : Addr} {od_lpool an_lpool : Option Addr} {sl_lpool : Array (Option Value)} {oc_lpool dc_lpool pm_lpool cd_lpool ct_lpool : Value} {kV_lpool : Value} (a_lpool : PySem.W.nsIn K mainGlobals "_law_pool" = some (some (.ref f_lpool)))
    (l_lpool : K.lookup f_lpool = some ⟨oc_lpool, od_lpool, .func (PySem.W.fnOf "_law_pool" "_law_pool" (defArgs sLpool) (defBody sLpool) (defScope sLpool) .none kV_lpool dc_lpool pm_lpool an_lpool cd_lpool ct_lpool), sl_lpool⟩) (c_lpool : PySem.W.codeIn K cd_lpool "_law_pool" = true) (k_lpool : PySem.W.keepIn K (.ref f_lpool) = true)
    {f_ltake : Addr} {od_ltake an_ltake : Option Addr} {sl_ltake : Array (Option Value)} {oc_ltake dc_ltake pm_ltake cd_ltake ct_ltake : Value} {kV_ltake : Value} (a_ltake : PySem.W.nsIn K mainGlobals "_law_take" = some (some (.ref f_ltake)))
    (l_ltake : K.lookup f_ltake = some ⟨oc_ltake, od_ltake, .func (PySem.W.fnOf "_law_take" "_law_take" (defArgs sLtake) (defBody sLtake) (defScope sLtake) .none kV_ltake dc_ltake pm_ltake an_ltake cd_ltake ct_ltake), sl_ltake⟩) (c_ltake : PySem.W.codeIn K cd_ltake "_law_take" = true) (k_ltake : PySem.W.keepIn K (.ref f_ltake) = true)
    {f_lfolded : Addr} {od_lfolded an_lfolded : Option Addr} {sl_lfolded : Array (Option Value)} {oc_lfolded dc_lfolded pm_lfolded cd_lfolded ct_lfolded : Value} {kV_lfolded : Value} (a_lfolded : PySem.W.nsIn K mainGlobals "_law_folded" = some (some (.ref f_lfolded)))
    (l_lfolded : K.lookup f_lfolded = some ⟨oc_lfolded, od_lfolded, .func (PySem.W.fnOf "_law_folded" "_law_folded" (defArgs sLfolded) (defBody sLfolded) (defScope sLfolded) .none kV_lfolded dc_lfolded pm_lfolded an_lfolded cd_lfolded ct_lfolded), sl_lfolded⟩) (c_lfolded : PySem.W.codeIn K cd_lfolded "_law_folded" = true) (k_lfolded : PySem.W.keepIn K (.ref f_lfolded) = true)
    {f_lnumber : Addr} {od_lnumber an_lnumber : Option Addr} {sl_lnumber : Array (Option Value)} {oc_lnumber dc_lnumber pm_lnumber cd_lnumber ct_lnumber : Value} {kV_lnumber : Value} (a_lnumber : PySem.W.nsIn K mainGlobals "_law_number" = some (some (.ref f_lnumber)))
    (l_lnumber : K.lookup f_lnumber = some ⟨oc_lnumber, od_lnumber, .func (PySem.W.fnOf "_law_number" "_law_number" (defArgs sLnumber) (defBody sLnumber) (defScope sLnumber) .none kV_lnumber dc_lnumber pm_lnumber an_lnumber cd_lnumber ct_lnumber), sl_lnumber⟩) (c_lnumber : PySem.W.codeIn K cd_lnumber "_law_number" = true) (k_lnumber : PySem.W.keepIn K (.ref f_lnumber) = true)
    {f_ldot : Addr} {od_ldot an_ldot : Option Addr} {sl_ldot : Array (Option Value)} {oc_ldot dc_ldot pm_ldot cd_ldot ct_ldot : Value} {kV_ldot : Value} (a_ldot : PySem.W.nsIn K mainGlobals "_law_dot" = some (some (.ref f_ldot)))
    (l_ldot : K.lookup f_ldot = some ⟨oc_ldot, od_ldot, .func (PySem.W.fnOf "_law_dot" "_law_dot" (defArgs sLdot) (defBody sLdot) (defScope sLdot) .none kV_ldot dc_ldot pm_ldot an_ldot cd_ldot ct_ldot), sl_ldot⟩) (c_ldot : PySem.W.codeIn K cd_ldot "_law_dot" = true) (k_ldot : PySem.W.keepIn K (.ref f_ldot) = true)
    {f_lnumbers : Addr} {od_lnumbers an_lnumbers : Option Addr} {sl_lnumbers : Array (Option Value)} {oc_lnumbers dc_lnumbers pm_lnumbers cd_lnumbers ct_lnumbers : Value} {kV_lnumbers : Value} (a_lnumbers : PySem.W.nsIn K mainGlobals "_law_numbers" = some (some (.ref f_lnumbers)))
    (l_lnumbers : K.lookup f_lnumbers = some ⟨oc_lnumbers, od_lnumbers, .func (PySem.W.fnOf "_law_numbers" "_law_numbers" (defArgs sLnumbers) (defBody sLnumbers) (defScope sLnumbers) .none kV_lnumbers dc_lnumbers pm_lnumbers an_lnumbers cd_lnumbers ct_lnumbers), sl_lnumbers⟩) (c_lnumbers : PySem.W.codeIn K cd_lnumbers "_law_numbers" = true) (k_lnumbers : PySem.W.keepIn K (.ref f_lnumbers) = true)
    {f_lbase : Addr} {od_lbase an_lbase : Option Addr} {sl_lbase : Array (Option Value)} {oc_lbase dc_lbase pm_lbase cd_lbase ct_lbase : Value} {kV_lbase : Value} (a_lbase : PySem.W.nsIn K mainGlobals "_law_base" = some (some (.ref f_lbase)))
    (l_lbase : K.lookup f_lbase = some ⟨oc_lbase, od_lbase, .func (PySem.W.fnOf "_law_base" "_law_base" (defArgs sLbase) (defBody sLbase) (defScope sLbase) .none kV_lbase dc_lbase pm_lbase an_lbase cd_lbase ct_lbase), sl_lbase⟩) (c_lbase : PySem.W.codeIn K cd_lbase "_law_base" = true) (k_lbase : PySem.W.keepIn K (.ref f_lbase) = true)
    {f_lrest : Addr} {od_lrest an_lrest : Option Addr} {sl_lrest : Array (Option Value)} {oc_lrest dc_lrest pm_lrest cd_lrest ct_lrest : Value} {kV_lrest : Value} (a_lrest : PySem.W.nsIn K mainGlobals "_law_rest" = some (some (.ref f_lrest)))
    (l_lrest : K.lookup f_lrest = some ⟨oc_lrest, od_lrest, .func (PySem.W.fnOf "_law_rest" "_law_rest" (defArgs sLrest) (defBody sLrest) (defScope sLrest) .none kV_lrest dc_lrest pm_lrest an_lrest cd_lrest ct_lrest), sl_lrest⟩) (c_lrest : PySem.W.codeIn K cd_lrest "_law_rest" = true) (k_lrest : PySem.W.keepIn K (.ref f_lrest) = true)
    {f_lcoefs : Addr} {od_lcoefs an_lcoefs : Option Addr} {sl_lcoefs : Array (Option Value)} {oc_lcoefs dc_lcoefs pm_lcoefs cd_lcoefs ct_lcoefs : Value} {kV_lcoefs : Value} (a_lcoefs : PySem.W.nsIn K mainGlobals "_law_coefs" = some (some (.ref f_lcoefs)))
    (l_lcoefs : K.lookup f_lcoefs = some ⟨oc_lcoefs, od_lcoefs, .func (PySem.W.fnOf "_law_coefs" "_law_coefs" (defArgs sLcoefs) (defBody sLcoefs) (defScope sLcoefs) .none kV_lcoefs dc_lcoefs pm_lcoefs an_lcoefs cd_lcoefs ct_lcoefs), sl_lcoefs⟩) (c_lcoefs : PySem.W.codeIn K cd_lcoefs "_law_coefs" = true) (k_lcoefs : PySem.W.keepIn K (.ref f_lcoefs) = true)
    {f_lrows : Addr} {od_lrows an_lrows : Option Addr} {sl_lrows : Array (Option Value)} {oc_lrows dc_lrows pm_lrows cd_lrows ct_lrows : Value} {kV_lrows : Value} (a_lrows : PySem.W.nsIn K mainGlobals "_law_rows" = some (some (.ref f_lrows)))
    (l_lrows : K.lookup f_lrows = some ⟨oc_lrows, od_lrows, .func (PySem.W.fnOf "_law_rows" "_law_rows" (defArgs sLrows) (defBody sLrows) (defScope sLrows) .none kV_lrows dc_lrows pm_lrows an_lrows cd_lrows ct_lrows), sl_lrows⟩) (c_lrows : PySem.W.codeIn K cd_lrows "_law_rows" = true) (k_lrows : PySem.W.keepIn K (.ref f_lrows) = true)
    {f_lsays : Addr} {od_lsays an_lsays : Option Addr} {sl_lsays : Array (Option Value)} {oc_lsays dc_lsays pm_lsays cd_lsays ct_lsays : Value} {kV_lsays : Value} (a_lsays : PySem.W.nsIn K mainGlobals "_law_says" = some (some (.ref f_lsays)))
    (l_lsays : K.lookup f_lsays = some ⟨oc_lsays, od_lsays, .func (PySem.W.fnOf "_law_says" "_law_says" (defArgs sLsays) (defBody sLsays) (defScope sLsays) .none kV_lsays dc_lsays pm_lsays an_lsays cd_lsays ct_lsays), sl_lsays⟩) (c_lsays : PySem.W.codeIn K cd_lsays "_law_says" = true) (k_lsays : PySem.W.keepIn K (.ref f_lsays) = true)
    {f_law : Addr} {od_law an_law : Option Addr} {sl_law : Array (Option Value)} {oc_law dc_law pm_law cd_law ct_law : Value} {kV_law : Value} (a_law : PySem.W.nsIn K mainGlobals "law" = some (some (.ref f_law)))
    (l_law : K.lookup f_law = some ⟨oc_law, od_law, .func (PySem.W.fnOf "law" "law" (defArgs sLaw) (defBody sLaw) (defScope sLaw) .none kV_law dc_law pm_law an_law cd_law ct_law), sl_law⟩) (c_law : PySem.W.codeIn K cd_law "law" = true) (k_law : PySem.W.keepIn K (.ref f_law) = true)
    (w1 : PySem.W.nsIn K D_whole "least" = some (some .none)) (w2 : PySem.W.nsIn K D_whole "most" = some (some .none))
    (z_sum : PySem.W.nsIn K mainGlobals "sum" = some none)
    (z_zip : PySem.W.nsIn K mainGlobals "zip" = some none)
    (z_abs : PySem.W.nsIn K mainGlobals "abs" = some none)
    (z_len : PySem.W.nsIn K mainGlobals "len" = some none)
    (z_min : PySem.W.nsIn K mainGlobals "min" = some none)
    (z_max : PySem.W.nsIn K mainGlobals "max" = some none)
    (z_tuple : PySem.W.nsIn K mainGlobals "tuple" = some none)
    (z_list : PySem.W.nsIn K mainGlobals "list" = some none)
    (z_dict : PySem.W.nsIn K mainGlobals "dict" = some none)
    (z_range : PySem.W.nsIn K mainGlobals "range" = some none)
    (z_reversed : PySem.W.nsIn K mainGlobals "reversed" = some none)
    (z_enumerate : PySem.W.nsIn K mainGlobals "enumerate" = some none)
    (z_isinstance : PySem.W.nsIn K mainGlobals "isinstance" = some none)
    (z_int : PySem.W.nsIn K mainGlobals "int" = some none)
    (z_bool : PySem.W.nsIn K mainGlobals "bool" = some none)
    (z_all : PySem.W.nsIn K mainGlobals "all" = some none)
    (z_any : PySem.W.nsIn K mainGlobals "any" = some none)
    : ∃ fd : FuncData, (∀ (s : Shared) (v : Value), BindsTo s fd ⟨[v], []⟩ [("_law_script", v)]) ∧ ∀ base : Heap, K.In base → base.Ns mainGlobals mg → base.NoSeer → FnOk l.prog w K mg base CX0 61 fa fd ["_law_script"] (spLaw K) := by
  have e := hfa.symm.trans (PySem.W.mg_of X G a_law)
  cases e
  have F_whole := isw_mk l_whole c_whole k_whole w1 w2
  have g_whole := PySem.W.mg_of X G a_whole
  have F_added := fun_mk (st := sAdded) l_added c_added k_added
  have g_added := PySem.W.mg_of X G a_added
  have F_product := fun_mk (st := sProduct) l_product c_product k_product
  have b_product := F_product.binds (ps := ["one", "other"]) fun _ _ _ _ _ _ us hl => match us, hl with | [_, _], _ => rfl
  have g_product := PySem.W.mg_of X G a_product
  have F_common := fun_mk (st := sCommon) l_common c_common k_common
  have b_common := F_common.binds (ps := ["one", "other"]) fun _ _ _ _ _ _ us hl => match us, hl with | [_, _], _ => rfl
  have g_common := PySem.W.mg_of X G a_common
  have F_turned := fun_mk (st := sTurned) l_turned c_turned k_turned
  have b_turned := F_turned.binds (ps := ["columns", "inverse", "free", "coefs"]) fun _ _ _ _ _ _ us hl => match us, hl with | [_, _, _, _], _ => rfl
  have g_turned := PySem.W.mg_of X G a_turned
  have F_weighed := fun_mk (st := sWeighed) l_weighed c_weighed k_weighed
  have b_weighed := F_weighed.binds (ps := ["many", "pins", "products", "number"]) fun _ _ _ _ _ _ us hl => match us, hl with | [_, _, _, _], _ => rfl
  have g_weighed := PySem.W.mg_of X G a_weighed
  have F_restby := fun_mk (st := sRestBy) l_restby c_restby k_restby
  have b_restby := F_restby.binds (ps := ["weights", "d"]) fun _ _ _ _ _ _ us hl => match us, hl with | [_, _], _ => rfl
  have g_restby := PySem.W.mg_of X G a_restby
  have F_settled := fun_mk (st := sSettled) l_settled c_settled k_settled
  have g_settled := PySem.W.mg_of X G a_settled
  have F_shows := fun_mk (st := sShows) l_shows c_shows k_shows
  have g_shows := PySem.W.mg_of X G a_shows
  have F_spread := fun_mk (st := sSpread) l_spread c_spread k_spread
  have b_spread := F_spread.binds (ps := ["paper", "times"]) fun _ _ _ _ _ _ us hl => match us, hl with | [_, _], _ => rfl
  have g_spread := PySem.W.mg_of X G a_spread
  have F_times := fun_mk (st := sTimes) l_times c_times k_times
  have b_times := F_times.binds (ps := ["paper", "values"]) fun _ _ _ _ _ _ us hl => match us, hl with | [_, _], _ => rfl
  have g_times := PySem.W.mg_of X G a_times
  have F_lwhole := fun_mk (st := sLwhole) l_lwhole c_lwhole k_lwhole
  have b_lwhole := F_lwhole.binds (ps := ["_law_thing"]) fun _ _ _ _ _ _ us hl => match us, hl with | [_], _ => rfl
  have g_lwhole := PySem.W.mg_of X G a_lwhole
  have F_lpool := fun_mk (st := sLpool) l_lpool c_lpool k_lpool
  have b_lpool := F_lpool.binds (ps := ["_law_script", "_law_k"]) fun _ _ _ _ _ _ us hl => match us, hl with | [_, _], _ => rfl
  have g_lpool := PySem.W.mg_of X G a_lpool
  have F_ltake := fun_mk (st := sLtake) l_ltake c_ltake k_ltake
  have b_ltake := F_ltake.binds (ps := ["_law_pool_here", "_law_many"]) fun _ _ _ _ _ _ us hl => match us, hl with | [_, _], _ => rfl
  have g_ltake := PySem.W.mg_of X G a_ltake
  have F_lfolded := fun_mk (st := sLfolded) l_lfolded c_lfolded k_lfolded
  have b_lfolded := F_lfolded.binds (ps := ["_law_script", "_law_most"]) fun _ _ _ _ _ _ us hl => match us, hl with | [_, _], _ => rfl
  have g_lfolded := PySem.W.mg_of X G a_lfolded
  have F_lnumber := fun_mk (st := sLnumber) l_lnumber c_lnumber k_lnumber
  have b_lnumber := F_lnumber.binds (ps := ["_law_pool_here", "_law_size"]) fun _ _ _ _ _ _ us hl => match us, hl with | [_, _], _ => rfl
  have g_lnumber := PySem.W.mg_of X G a_lnumber
  have F_ldot := fun_mk (st := sLdot) l_ldot c_ldot k_ldot
  have b_ldot := F_ldot.binds (ps := ["_law_one", "_law_other"]) fun _ _ _ _ _ _ us hl => match us, hl with | [_, _], _ => rfl
  have g_ldot := PySem.W.mg_of X G a_ldot
  have F_lnumbers := fun_mk (st := sLnumbers) l_lnumbers c_lnumbers k_lnumbers
  have b_lnumbers := F_lnumbers.binds (ps := ["_law_thing", "_law_many"]) fun _ _ _ _ _ _ us hl => match us, hl with | [_, _], _ => rfl
  have g_lnumbers := PySem.W.mg_of X G a_lnumbers
  have F_lbase := fun_mk (st := sLbase) l_lbase c_lbase k_lbase
  have b_lbase := F_lbase.binds (ps := ["_law_rows_here", "_law_found", "_law_wide"]) fun _ _ _ _ _ _ us hl => match us, hl with | [_, _, _], _ => rfl
  have g_lbase := PySem.W.mg_of X G a_lbase
  have F_lrest := fun_mk (st := sLrest) l_lrest c_lrest k_lrest
  have b_lrest := F_lrest.binds (ps := ["_law_rows_here", "_law_found", "_law_wide"]) fun _ _ _ _ _ _ us hl => match us, hl with | [_, _, _], _ => rfl
  have g_lrest := PySem.W.mg_of X G a_lrest
  have F_lcoefs := fun_mk (st := sLcoefs) l_lcoefs c_lcoefs k_lcoefs
  have b_lcoefs := F_lcoefs.binds (ps := ["_law_pool_here", "_law_rows_here", "_law_wide", "_law_size"]) fun _ _ _ _ _ _ us hl => match us, hl with | [_, _, _, _], _ => rfl
  have g_lcoefs := PySem.W.mg_of X G a_lcoefs
  have F_lrows := fun_mk (st := sLrows) l_lrows c_lrows k_lrows
  have b_lrows := F_lrows.binds (ps := ["_law_cells", "_law_head", "_law_values", "_law_size"]) fun _ _ _ _ _ _ us hl => match us, hl with | [_, _, _, _], _ => rfl
  have g_lrows := PySem.W.mg_of X G a_lrows
  have F_lsays := fun_mk (st := sLsays) l_lsays c_lsays k_lsays
  have b_lsays := F_lsays.binds (ps := ["_law_found", "_law_due"]) fun _ _ _ _ _ _ us hl => match us, hl with | [_, _], _ => rfl
  have g_lsays := PySem.W.mg_of X G a_lsays
  have F_law := fun_mk (st := sLaw) l_law c_law k_law
  have m_sum := PySem.W.mg_none_of X G z_sum
  have m_zip := PySem.W.mg_none_of X G z_zip
  have m_abs := PySem.W.mg_none_of X G z_abs
  have m_len := PySem.W.mg_none_of X G z_len
  have m_min := PySem.W.mg_none_of X G z_min
  have m_max := PySem.W.mg_none_of X G z_max
  have m_tuple := PySem.W.mg_none_of X G z_tuple
  have m_list := PySem.W.mg_none_of X G z_list
  have m_dict := PySem.W.mg_none_of X G z_dict
  have m_range := PySem.W.mg_none_of X G z_range
  have m_reversed := PySem.W.mg_none_of X G z_reversed
  have m_enumerate := PySem.W.mg_none_of X G z_enumerate
  have m_isinstance := PySem.W.mg_none_of X G z_isinstance
  have m_int := PySem.W.mg_none_of X G z_int
  have m_bool := PySem.W.mg_none_of X G z_bool
  have m_all := PySem.W.mg_none_of X G z_all
  have m_any := PySem.W.mg_none_of X G z_any
  refine ⟨PySem.W.fnOf "law" "law" (defArgs sLaw) (defBody sLaw) (defScope sLaw) .none kV_law dc_law pm_law an_law cd_law ct_law, fun s v => .of_eq rfl, fun base KB NB sb => ?_⟩
  have product : ∀ k, FnOk l.prog w K mg base CX0 (k + 1) f_product _ ["one", "other"] (spDot K) := fun k => ok_product F_product m_sum m_zip
  have common : ∀ k, FnOk l.prog w K mg base CX0 (k + 1) f_common _ ["one", "other"] spCommon := fun k => ok_common F_common
  have turned : ∀ k, 40 ≤ k → FnOk l.prog w K mg base CX0 (k + 1 + 1) f_turned _ ["columns", "inverse", "free", "coefs"] spTurned := fun k hk => ok_turned F_turned (Nat.le_succ_of_le hk) sb tr (product k) k_product b_product g_product m_abs m_len m_min m_zip
  have weighed : ∀ k, 40 ≤ k → FnOk l.prog w K mg base CX0 (k + 1 + 1) f_weighed _ ["many", "pins", "products", "number"] spWeighed := fun k hk => ok_weighed F_weighed (Nat.le_succ_of_le hk) sb tr (common k) k_common b_common g_common m_abs m_dict m_reversed m_range
  have restby : ∀ k, 40 ≤ k → FnOk l.prog w K mg base CX0 (k + 1 + 1) f_restby _ ["weights", "d"] (spRestBy K) := fun k hk => ok_rest_by F_restby (Nat.le_succ_of_le hk) sb tr (common k) k_common b_common g_common m_abs m_tuple
  have settled : ∀ k, 40 ≤ k → FnOk l.prog w K mg base CX0 (k + 1 + 1 + 1) f_settled _ ["rows", "width"] spSettled := fun k hk => ok_settled F_settled (Nat.le_succ_of_le (Nat.le_succ_of_le hk)) sb tr (product (k + 1)) k_product b_product g_product (turned k hk) k_turned b_turned g_turned (weighed k hk) k_weighed b_weighed g_weighed (restby k hk) k_restby b_restby g_restby
    m_int m_range m_list m_enumerate m_sum m_len m_abs m_zip m_tuple
  have whole : ∀ k, FnOk l.prog w K mg base CX0 (k + 1) f_whole _ ["thing", "least", "most"] spWhole := fun k => ok_whole F_whole m_int m_bool m_isinstance
  have added : ∀ k, FnOk l.prog w K mg base CX0 (k + 1) f_added _ ["rows", "weights", "width"] spAdded := fun k => ok_added F_added m_zip m_enumerate m_tuple
  have shows : ∀ k, FnOk l.prog w K mg base CX0 (k + 1 + 1) f_shows _ ["rows", "thing", "width"] spShows := fun k => ok_shows F_shows F_whole (whole k) g_whole F_added (added k) g_added m_tuple m_isinstance m_len m_all
  have spread : ∀ k, FnOk l.prog w K mg base CX0 (k + 1) f_spread _ ["paper", "times"] spSpread := fun k => ok_spread F_spread m_zip m_list m_tuple
  have times : ∀ k, FnOk l.prog w K mg base CX0 (k + 1 + 1) f_times _ ["paper", "values"] spTimes := fun k => ok_times F_times (product k) k_product b_product g_product m_zip
  have lwhole : ∀ k, FnOk l.prog w K mg base CX0 (k + 1) f_lwhole _ ["_law_thing"] spLwhole := fun k => ok_lwhole F_lwhole m_int m_bool m_isinstance
  have lsays : ∀ k, FnOk l.prog w K mg base CX0 (k + 1) f_lsays _ ["_law_found", "_law_due"] spLsays := fun k => ok_lsays F_lsays m_bool m_isinstance
  have ldot : ∀ k, FnOk l.prog w K mg base CX0 (k + 1) f_ldot _ ["_law_one", "_law_other"] (spDot K) := fun k => ok_ldot F_ldot m_sum m_zip
  have lnumbers : ∀ k, FnOk l.prog w K mg base CX0 (k + 1 + 1) f_lnumbers _ ["_law_thing", "_law_many"] spLnumbers := fun k => ok_lnumbers F_lnumbers (lwhole k) k_lwhole b_lwhole g_lwhole m_tuple m_isinstance m_len m_all
  have lbase : ∀ k, FnOk l.prog w K mg base CX0 (k + 1 + 1 + 1) f_lbase _ ["_law_rows_here", "_law_found", "_law_wide"] spLbase := fun k => ok_lbase F_lbase (lnumbers k) k_lnumbers b_lnumbers g_lnumbers (ldot (k + 1)) k_ldot b_ldot g_ldot m_tuple m_list m_isinstance m_len m_all m_any m_enumerate m_range m_int
  have lrest : ∀ k, FnOk l.prog w K mg base CX0 (k + 1 + 1 + 1) f_lrest _ ["_law_rows_here", "_law_found", "_law_wide"] spLrest := fun k => ok_lrest F_lrest (lnumbers k) k_lnumbers b_lnumbers g_lnumbers (lwhole (k + 1)) k_lwhole b_lwhole g_lwhole m_tuple m_isinstance m_len m_all m_zip m_range
  have ltake : ∀ k, 40 ≤ k → FnOk l.prog w K mg base CX0 (k + 1) f_ltake _ ["_law_pool_here", "_law_many"] spTake := fun k hk => ok_take F_ltake hk sb tr
  have lpool : ∀ k, FnOk l.prog w K mg base CX0 (k + 1) f_lpool _ ["_law_script", "_law_k"] (spPool K) := fun k => ok_pool F_lpool m_len m_max
  have lfolded : ∀ k, FnOk l.prog w K mg base CX0 (k + 1) f_lfolded _ ["_law_script", "_law_most"] (spFolded K) := fun k => ok_folded F_lfolded m_len m_max m_min m_sum m_range
  have lnumber : ∀ k, 40 ≤ k → FnOk l.prog w K mg base CX0 (k + 1 + 1) f_lnumber _ ["_law_pool_here", "_law_size"] spNumber := fun k hk => ok_number F_lnumber (ltake k hk) k_ltake b_ltake g_ltake m_range
  have lcoefs : ∀ k, 40 ≤ k → FnOk l.prog w K mg base CX0 (k + 1 + 1 + 1) f_lcoefs _ ["_law_pool_here", "_law_rows_here", "_law_wide", "_law_size"] spCoefs := fun k hk => ok_coefs F_lcoefs (ltake (k + 1) (Nat.le_succ_of_le hk)) k_ltake b_ltake g_ltake (lnumber k hk) k_lnumber b_lnumber g_lnumber m_range m_len m_min
  have lrows : ∀ k, 40 ≤ k → FnOk l.prog w K mg base CX0 (k + 1 + 1 + 1 + 1) f_lrows _ ["_law_cells", "_law_head", "_law_values", "_law_size"] spRows := fun k hk => ok_lrows F_lrows (lcoefs k hk) k_lcoefs b_lcoefs g_lcoefs (lpool (k + 2)) k_lpool b_lpool g_lpool (ldot (k + 2)) k_ldot b_ldot g_ldot (ltake (k + 2) (Nat.le_succ_of_le (Nat.le_succ_of_le hk))) k_ltake b_ltake g_ltake m_range m_len
  exact ok_law (k := 60) F_law ⟨lfolded 59, k_lfolded, g_lfolded⟩ b_lfolded ⟨lpool 59, k_lpool, g_lpool⟩ b_lpool ⟨ltake 59 (by decide), k_ltake, g_ltake⟩ b_ltake ⟨lnumber 58 (by decide), k_lnumber, g_lnumber⟩ b_lnumber ⟨lrows 56 (by decide), k_lrows, g_lrows⟩ b_lrows
    ⟨settled 57 (by decide), k_settled, g_settled⟩ (kb_settled F_settled) ⟨lbase 57, k_lbase, g_lbase⟩ b_lbase ⟨lrest 57, k_lrest, g_lrest⟩ b_lrest ⟨lsays 59, k_lsays, g_lsays⟩ b_lsays ⟨shows 58, k_shows, g_shows⟩ (kb_shows F_shows) ⟨spread 59, k_spread, g_spread⟩ b_spread ⟨times 58, k_times, g_times⟩ b_times
    m_len m_int m_range m_list m_tuple
end CfW
open PySem PySem.W PyProof.Rows
set_option maxHeartbeats 0 in
theorem PySem.Challenge.cw_countfold_k40_whole_base_or_rest_holds : PySem.Challenge.rw_countfold_k40_whole_base_or_rest.Holds := by
  w_on; o_law; k_head; (case hw => w_witness2)
  k_fill
  refine CfW.walk_seer (l := PySem.Challenge.rw_countfold_k40_whole_base_or_rest) (n := 63) (k := 61) (x := "_law_script") (sp := fun w => CfW.spLaw _) rfl (by decide) rfl ⟨rfl, by decide, by decide⟩ ?hi (fun w h Y => PySem.W.kIn_of Y) ?F (fun _ _ a ns hl _ hS => ⟨a, ns, rfl, hS, hl, fun _ => rfl⟩)
  case hi => decide +kernel
  case F =>
    intro w mg fa h KX G hmg
    refine' CfW.all_defs rfl KX G hmg ?a_whole ?l_whole ?c_whole ?k_whole ?a_added ?l_added ?c_added ?k_added ?a_product ?l_product ?c_product ?k_product ?a_common ?l_common ?c_common ?k_common ?a_turned ?l_turned ?c_turned ?k_turned ?a_weighed ?l_weighed ?c_weighed ?k_weighed ?a_restby ?l_restby ?c_restby ?k_restby ?a_settled ?l_settled ?c_settled ?k_settled ?a_shows ?l_shows ?c_shows ?k_shows ?a_spread ?l_spread ?c_spread ?k_spread ?a_times ?l_times ?c_times ?k_times ?a_lwhole ?l_lwhole ?c_lwhole ?k_lwhole ?a_lpool ?l_lpool ?c_lpool ?k_lpool ?a_ltake ?l_ltake ?c_ltake ?k_ltake ?a_lfolded ?l_lfolded ?c_lfolded ?k_lfolded ?a_lnumber ?l_lnumber ?c_lnumber ?k_lnumber ?a_ldot ?l_ldot ?c_ldot ?k_ldot ?a_lnumbers ?l_lnumbers ?c_lnumbers ?k_lnumbers ?a_lbase ?l_lbase ?c_lbase ?k_lbase ?a_lrest ?l_lrest ?c_lrest ?k_lrest ?a_lcoefs ?l_lcoefs ?c_lcoefs ?k_lcoefs ?a_lrows ?l_lrows ?c_lrows ?k_lrows ?a_lsays ?l_lsays ?c_lsays ?k_lsays ?a_law ?l_law ?c_law ?k_law ?w1 ?w2 ?z_sum ?z_zip ?z_abs ?z_len ?z_min ?z_max ?z_tuple ?z_list ?z_dict ?z_range ?z_reversed ?z_enumerate ?z_isinstance ?z_int ?z_bool ?z_all ?z_any
    (case a_whole => k_is); (case l_whole => k_is); (case c_whole => k_is); (case k_whole => k_is); (case a_added => k_is); (case l_added => k_is)
    (case c_added => k_is); (case k_added => k_is); (case a_product => k_is); (case l_product => k_is); (case c_product => k_is); (case k_product => k_is)
    (case a_common => k_is); (case l_common => k_is); (case c_common => k_is); (case k_common => k_is); (case a_turned => k_is); (case l_turned => k_is)
    (case c_turned => k_is); (case k_turned => k_is); (case a_weighed => k_is); (case l_weighed => k_is); (case c_weighed => k_is); (case k_weighed => k_is)
    (case a_restby => k_is); (case l_restby => k_is); (case c_restby => k_is); (case k_restby => k_is); (case a_settled => k_is); (case l_settled => k_is)
    (case c_settled => k_is); (case k_settled => k_is); (case a_shows => k_is); (case l_shows => k_is); (case c_shows => k_is); (case k_shows => k_is)
    (case a_spread => k_is); (case l_spread => k_is); (case c_spread => k_is); (case k_spread => k_is); (case a_times => k_is); (case l_times => k_is)
    (case c_times => k_is); (case k_times => k_is); (case a_lwhole => k_is); (case l_lwhole => k_is); (case c_lwhole => k_is); (case k_lwhole => k_is)
    (case a_lpool => k_is); (case l_lpool => k_is); (case c_lpool => k_is); (case k_lpool => k_is); (case a_ltake => k_is); (case l_ltake => k_is)
    (case c_ltake => k_is); (case k_ltake => k_is); (case a_lfolded => k_is); (case l_lfolded => k_is); (case c_lfolded => k_is); (case k_lfolded => k_is)
    (case a_lnumber => k_is); (case l_lnumber => k_is); (case c_lnumber => k_is); (case k_lnumber => k_is); (case a_ldot => k_is); (case l_ldot => k_is)
    (case c_ldot => k_is); (case k_ldot => k_is); (case a_lnumbers => k_is); (case l_lnumbers => k_is); (case c_lnumbers => k_is); (case k_lnumbers => k_is)
    (case a_lbase => k_is); (case l_lbase => k_is); (case c_lbase => k_is); (case k_lbase => k_is); (case a_lrest => k_is); (case l_lrest => k_is)
    (case c_lrest => k_is); (case k_lrest => k_is); (case a_lcoefs => k_is); (case l_lcoefs => k_is); (case c_lcoefs => k_is); (case k_lcoefs => k_is)
    (case a_lrows => k_is); (case l_lrows => k_is); (case c_lrows => k_is); (case k_lrows => k_is); (case a_lsays => k_is); (case l_lsays => k_is)
    (case c_lsays => k_is); (case k_lsays => k_is); (case a_law => k_is); (case l_law => k_is); (case c_law => k_is); (case k_law => k_is)
    (case w1 => k_is); (case w2 => k_is); (case z_sum => k_is); (case z_zip => k_is); (case z_abs => k_is); (case z_len => k_is)
    (case z_min => k_is); (case z_max => k_is); (case z_tuple => k_is); (case z_list => k_is); (case z_dict => k_is); (case z_range => k_is)
    (case z_reversed => k_is); (case z_enumerate => k_is); (case z_isinstance => k_is); (case z_int => k_is); (case z_bool => k_is); (case z_all => k_is)
    (case z_any => k_is)
