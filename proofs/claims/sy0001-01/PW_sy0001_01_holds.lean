import PyProof.Rows.All
import Wide.All
import OpenK.AllK
import Wide.FinOn
import KE.KPairComp
import KE.RegLcTurns
import KE.KLcFree
import KE.KStateW
import KE.KEqDeep
import Lean
import PySem.Challenge.RW_sy0001_01
set_option Elab.async false
section -- Head0
open PySem PySem.W PyProof.Rows
namespace Mine
set_option maxRecDepth 100000 in
set_option maxHeartbeats 8000000 in
open_top hd for PySem.Challenge.rw_sy0001_01
end Mine
end
section -- Base
open PySem PySem.W PySem.Calls PyProof.Rows
namespace Mine
noncomputable abbrev KK (w : World) : Frag := hd.heap_39 w.params
abbrev PR : Program := PySem.Challenge.rw_sy0001_01.row.prog
abbrev TP (w : World) (mean : ExcName → Option Value) (mg mb : Str → Option Value) (h : Heap) : Prop := Top hd.view_39 (looseW hd.view_39 []) mean mg mb h

/-- what a call of the def at f does: with the ledger news, handed vs, it comes back with v and the ledger news' that Post allows -/
def Ctr (w : World) (mean : ExcName → Option Value) (mg mb : Str → Option Value) (f : Addr) (news : List (Addr × Obj)) (vs : List Value) (dep : Nat) (Post : Value → List (Addr × Obj) → Prop) : Prop :=
  ∀ (dp un : Nat) (gd : Option (List Code)) (cn : Str) (cs : Scope) (a : Addr) (ccd : Value) (cl : List (Str × Addr)) (outer : List Env) (A₀ : Around) (base h₀ : Heap) (L : Addr) (m : Str → Option Value) (s : Shared) (Q E : Value → Shared → Prop),
    Below A₀ base outer h₀ → Fr h₀ L s.heap m → (KK w).In h₀ → News h₀ L s.heap news → TP w mean mg mb h₀ → cs.kind = .function →
    dp + dep < recursionLimit → un + 8 * dep < cLine →
    (∀ v news' h' tk', Fr h₀ L h' m → News h₀ L h' news' → Post v news' → Q v { s with heap := h', toks := tk' }) →
      wpAny (model PR w) (ktrTop dp un gd cn cs L a ccd cl outer) (call (.ref f) vs) Q E s
end Mine
end
section -- NumF
namespace Mine
/-- least_divisor's loop, with fuel -/
def ldF (n : Int) : Nat → Int → Int
  | 0, _ => n
  | k + 1, f => if f * f ≤ n then (if Int.fmod n f = 0 then f else ldF n k (f + if f = 2 then 1 else 2)) else n
/-- the inner loop of prime_factors: what is left, how often -/
def dvF (p : Int) : Nat → Int → Int → Int × Int
  | 0, n, m => (n, m)
  | k + 1, n, m => if Int.fmod n p = 0 then dvF p k (Int.fdiv n p) (m + 1) else (n, m)
/-- the outer loop -/
def pfF : Nat → Int → Int → List (Int × Int) → List (Int × Int)
  | 0, _, _, acc => acc
  | k + 1, n, b, acc => if 1 < n then
      let p := ldF n (n + 1).toNat b
      let r := dvF p n.toNat n 0
      pfF k r.1 (if p = 2 then 3 else p + 2) (acc ++ [(p, r.2)])
    else acc
def facs (n : Int) : List (Int × Int) := pfF n.toNat n 2 []
def pows (p k : Int) (ds : List Int) : List Int := ds.flatMap fun x => (List.range (k + 1).toNat).map fun j => x * p ^ j
def divF (ps : List (Int × Int)) : List Int := ps.foldl (fun ds q => pows q.1 q.2 ds) [1]
/-- what the walk asks of the numbers along the way -/
def okP (ds : List Int) (q : Int × Int) : Bool := decide (2 ≤ q.1) && decide (q.1 < 100000) && decide (0 ≤ q.2) && decide (q.2 < 100) && ds.all (fun x => decide (0 < x) && decide (x < 100000)) && decide (ds.length < 64)
def okL : List Int → List (Int × Int) → Bool
  | ds, [] => ds.all (fun x => decide (0 < x) && decide (x < 100000)) && decide (ds.length < 64) && decide (0 < ds.length)
  | ds, q :: r => okP ds q && okL (pows q.1 q.2 ds) r
def okN (n : Int) : Bool := okL [1] (facs n) && (divF (facs n)).all fun x => decide (Int.fmod n x = 0)
def all_okB : Bool := (List.range 60).all fun i => okN (((i : Int) + 1) * ((i : Int) + 1) + 1) && okN (((i : Int) + 1) * ((i : Int) + 1) + 2)
set_option maxRecDepth 100000 in
theorem all_ok : all_okB = true := by decide +kernel
end Mine
end
section -- Plain
namespace Mine
def dot (xs ys : List Int) : Int := (List.zipWith (· * ·) xs ys).sum
abbrev less (k : Int) (xs ys : List Int) : List Int := List.zipWith (fun x y => x - k * y) xs ys
def lin (a : List Int) (xs ys : List Int) : List Int := List.zipWith (fun x y => a.getD 0 0 * x + a.getD 1 0 * y) xs ys
def det (a b : List Int) : Int := a.getD 0 0 * b.getD 1 0 - a.getD 1 0 * b.getD 0 0

theorem dot_nil (ys : List Int) : dot [] ys = 0 := rfl
theorem dot_cons (x y : Int) (xs ys : List Int) : dot (x :: xs) (y :: ys) = x * y + dot xs ys := by
  unfold dot; rw [List.zipWith_cons_cons, List.sum_cons]
theorem dot_comm : ∀ xs ys : List Int, dot xs ys = dot ys xs
  | [], [] => rfl
  | [], _ :: _ => rfl
  | _ :: _, [] => rfl
  | x :: xs, y :: ys => by rw [dot_cons, dot_cons, dot_comm xs ys, Int.mul_comm]
theorem less_length (k : Int) (xs ys : List Int) (h : xs.length = ys.length) : (less k xs ys).length = xs.length := by
  simp [less, h]
theorem dot_less (k : Int) : ∀ xs ys zs : List Int, xs.length = ys.length → xs.length = zs.length → dot (less k xs ys) zs = dot xs zs - k * dot ys zs
  | [], [], [], _, _ => by simp [less, dot]
  | x :: xs, y :: ys, z :: zs, h1, h2 => by
    have ih := dot_less k xs ys zs (by simpa using h1) (by simpa using h2)
    show dot ((x - k * y) :: less k xs ys) (z :: zs) = _
    rw [dot_cons, dot_cons, dot_cons, ih]
    grind
  | [], _ :: _, _, h, _ => by simp at h
  | _ :: _, [], _, h, _ => by simp at h
  | [], [], _ :: _, _, h => by simp at h
  | _ :: _, _ :: _, [], _, h => by simp at h
theorem lin_length (a xs ys : List Int) (h : xs.length = ys.length) : (lin a xs ys).length = xs.length := by
  simp [lin, h]
theorem less_two (k a b c d : Int) : less k [a, b] [c, d] = [a - k * c, b - k * d] := rfl
theorem lin_less (k a b c d : Int) : ∀ xs ys : List Int, less k (lin [a, b] xs ys) (lin [c, d] xs ys) = lin [a - k * c, b - k * d] xs ys
  | [], _ => by simp [lin, less]
  | _ :: _, [] => by simp [lin, less]
  | x :: xs, y :: ys => by
    have ih := lin_less k a b c d xs ys
    show ((a * x + b * y) - k * (c * x + d * y)) :: less k (lin [a, b] xs ys) (lin [c, d] xs ys) = ((a - k * c) * x + (b - k * d) * y) :: lin [a - k * c, b - k * d] xs ys
    rw [ih]
    congr 1
    grind
theorem sq_nonneg (x : Int) : 0 ≤ x * x := by
  rcases Int.le_total 0 x with h | h
  · exact Int.mul_nonneg h h
  · have := Int.mul_nonneg (Int.neg_nonneg_of_nonpos h) (Int.neg_nonneg_of_nonpos h)
    rwa [Int.neg_mul_neg] at this
theorem dot_self_nonneg : ∀ xs : List Int, 0 ≤ dot xs xs
  | [] => Int.le_refl _
  | x :: xs => by rw [dot_cons]; have := dot_self_nonneg xs; have := sq_nonneg x; omega
theorem mem_sq_le : ∀ (xs : List Int) (x : Int), x ∈ xs → x * x ≤ dot xs xs
  | y :: ys, x, h => by
    rw [dot_cons]
    rcases List.mem_cons.mp h with rfl | h
    · have := dot_self_nonneg ys; omega
    · have := mem_sq_le ys x h; have := sq_nonneg y; omega
theorem abs_of_sq {x M : Int} (h : x * x ≤ M) : -M ≤ x ∧ x ≤ M := by
  rcases Int.lt_trichotomy x 0 with h0 | h0 | h0
  · have h1 : 1 ≤ -x := by omega
    have h2 := Int.mul_le_mul_of_nonneg_left h1 (show 0 ≤ -x by omega)
    rw [Int.mul_one, Int.neg_mul_neg] at h2
    omega
  · subst h0; omega
  · have h1 : 1 ≤ x := by omega
    have h2 := Int.mul_le_mul_of_nonneg_left h1 (show 0 ≤ x by omega)
    rw [Int.mul_one] at h2
    omega
/-- squares below a square -/
theorem abs_of_sq_le_sq {x M : Int} (hM : 0 ≤ M) (h : x * x ≤ M * M) : -M ≤ x ∧ x ≤ M := by
  refine ⟨Int.not_lt.mp fun q => ?_, Int.not_lt.mp fun q => ?_⟩
  · have h1 : M < -x := by omega
    have : M * M < (-x) * (-x) := by
      have a := Int.mul_lt_mul_of_pos_left h1 (show 0 < -x by omega)
      have b := Int.mul_le_mul_of_nonneg_right (show M ≤ -x by omega) hM
      omega
    rw [Int.neg_mul_neg] at this
    omega
  · have : M * M < x * x := by
      have a := Int.mul_lt_mul_of_pos_left q (show 0 < x by omega)
      have b := Int.mul_le_mul_of_nonneg_right (show M ≤ x by omega) hM
      omega
    omega
/-- the facts of the nearest whole number -/
theorem nearest_facts {l s k : Int} (hs : 0 < s) (hk : k = Int.fdiv (2 * l + s) (2 * s)) : -s ≤ 2 * (l - k * s) ∧ 2 * (l - k * s) < s := by
  have h2 : 0 < 2 * s := by omega
  have e := Int.mul_fdiv_add_fmod (2 * l + s) (2 * s)
  have p := Int.fmod_nonneg_of_pos (2 * l + s) h2
  have q := Int.fmod_lt_of_pos (2 * l + s) h2
  rw [← hk] at e
  have : 2 * s * k = 2 * (k * s) := by grind
  omega

structure LInv (xs ys : List Int) (M s2 : Int) (b0 b1 a0 a1 : List Int) (s1 l : Int) : Prop where
  len0 : b0.length = xs.length
  len1 : b1.length = xs.length
  la0 : a0.length = 2
  la1 : a1.length = 2
  lin0 : b0 = lin a0 xs ys
  lin1 : b1 = lin a1 xs ys
  det1 : det a0 a1 = 1 ∨ det a0 a1 = -1
  hs1 : s1 = dot b0 b0
  hl : l = dot b1 b0
  hs2 : s2 = dot b0 b0 * dot b1 b1 - l * l
  p1 : 0 < s1
  p2 : 0 < s2
  m0 : dot b0 b0 ≤ M
  m1 : dot b1 b1 ≤ M

section
variable {xs ys b0 b1 a0 a1 : List Int} {M s2 s1 l : Int}
theorem LInv.two {a : List Int} (h : a.length = 2) : ∃ x y, a = [x, y] := by
  match a, h with
  | [x, y], _ => exact ⟨x, y, rfl⟩
theorem LInv.shorten (h : LInv xs ys M s2 b0 b1 a0 a1 s1 l) (k : Int) (hk : k = Int.fdiv (2 * l + s1) (2 * s1)) :
    LInv xs ys M s2 b0 (less k b1 b0) a0 (less k a1 a0) s1 (l - k * s1) := by
  have hlen : b1.length = b0.length := h.len1.trans h.len0.symm
  have e1 : dot (less k b1 b0) b0 = l - k * s1 := by rw [dot_less k _ _ _ hlen hlen, ← h.hl, ← h.hs1]
  have e2 : dot (less k b1 b0) (less k b1 b0) = dot b1 b1 - k * l - k * (l - k * s1) := by
    rw [dot_less k _ _ _ hlen (less_length k _ _ hlen).symm, dot_comm b1, dot_less k _ _ _ hlen rfl, dot_comm b0 (less k b1 b0), e1, dot_comm b0 b1, ← h.hl]
  obtain ⟨a, b, rfl⟩ := LInv.two h.la0
  obtain ⟨c, d, rfl⟩ := LInv.two h.la1
  have nf := nearest_facts h.p1 hk
  have p1 := h.p1
  have hk2 : 0 ≤ k * l + k * (l - k * s1) := by
    rcases Int.lt_trichotomy k 0 with h0 | h0 | h0
    · have h1 : l + (l - k * s1) ≤ 0 := by
        have : k * s1 ≤ (-1) * s1 := Int.mul_le_mul_of_nonneg_right (show k ≤ -1 by omega) (by omega)
        omega
      have := Int.mul_nonneg_of_nonpos_of_nonpos (show k ≤ 0 by omega) h1
      rw [Int.mul_add] at this
      exact this
    · subst h0; simp
    · have h1 : 0 ≤ l + (l - k * s1) := by
        have : 1 * s1 ≤ k * s1 := Int.mul_le_mul_of_nonneg_right (show 1 ≤ k by omega) (by omega)
        omega
      have := Int.mul_nonneg (show 0 ≤ k by omega) h1
      rw [Int.mul_add] at this
      exact this
  refine ⟨h.len0, (less_length k _ _ hlen).trans h.len1, rfl, rfl, h.lin0, ?_, ?_, h.hs1, e1.symm, ?_, h.p1, h.p2, h.m0, ?_⟩
  · conv => lhs; rw [h.lin1, h.lin0]
    exact lin_less k c d a b xs ys
  · rw [less_two]
    have : det [a, b] [c - k * a, d - k * b] = det [a, b] [c, d] := by
      simp only [det, List.getD_cons_zero, List.getD_cons_succ]
      grind
    rw [this]; exact h.det1
  · have q := h.hs2
    rw [e2]
    rw [← h.hs1] at q ⊢
    rw [q]
    grind
  · have := h.m1
    omega
theorem LInv.exchange (h : LInv xs ys M s2 b0 b1 a0 a1 s1 l) (hx : s2 + l * l < s1 * s1) :
    LInv xs ys M s2 b1 b0 a1 a0 (Int.fdiv (s2 + l * l) s1) l ∧ Int.fdiv (s2 + l * l) s1 < s1 := by
  have e : s2 + l * l = s1 * dot b1 b1 := by have := h.hs2; rw [← h.hs1] at this; omega
  have e' : Int.fdiv (s2 + l * l) s1 = dot b1 b1 := by
    rw [e, Int.mul_comm]
    have := h.p1
    rw [Int.mul_fdiv_cancel _ (by omega)]
  have hpos : 0 < dot b1 b1 := by
    have h1 : 0 < s1 * dot b1 b1 := by rw [← e]; have := sq_nonneg l; have := h.p2; omega
    rcases Int.lt_trichotomy 0 (dot b1 b1) with q | q | q
    · exact q
    · rw [← q] at h1; simp at h1
    · have := dot_self_nonneg b1; omega
  refine ⟨⟨h.len1, h.len0, h.la1, h.la0, h.lin1, h.lin0, ?_, e', by rw [dot_comm]; exact h.hl, ?_, by rw [e']; exact hpos, h.p2, h.m1, h.m0⟩, ?_⟩
  · have : det a1 a0 = - det a0 a1 := by simp only [det]; grind
    rcases h.det1 with q | q
    · right; rw [this, q]
    · left; rw [this, q]; rfl
  · rw [h.hs2, Int.mul_comm]
  · rw [e']
    rw [e] at hx
    exact Int.lt_of_mul_lt_mul_left hx (by have := h.p1; omega)
theorem LInv.l_bound (h : LInv xs ys M s2 b0 b1 a0 a1 s1 l) : -M ≤ l ∧ l ≤ M := by
  have hM : 0 ≤ M := Int.le_trans (dot_self_nonneg b0) h.m0
  refine abs_of_sq_le_sq hM ?_
  have h1 : dot b0 b0 * dot b1 b1 ≤ M * M := Int.mul_le_mul h.m0 h.m1 (dot_self_nonneg b1) hM
  have := h.hs2
  have := h.p2
  omega
theorem LInv.s_bound (h : LInv xs ys M s2 b0 b1 a0 a1 s1 l) : 0 < s1 ∧ s1 ≤ M := ⟨h.p1, by rw [h.hs1]; exact h.m0⟩
theorem LInv.b_bound (h : LInv xs ys M s2 b0 b1 a0 a1 s1 l) : ∀ x ∈ b0, -M ≤ x ∧ x ≤ M := fun x hx => abs_of_sq (Int.le_trans (mem_sq_le b0 x hx) h.m0)
end
end Mine
end
section -- Plain2
namespace Mine
/-- the two rows of the law, and what a combination of them is -/
theorem two_dot (x0 y0 : Int) (x1 y1 : Int) : dot [x0, x1] [y0, y1] = x0 * y0 + x1 * y1 := by
  rw [dot_cons, dot_cons, dot_nil]; omega
theorem three_dot (x0 y0 x1 y1 x2 y2 : Int) : dot [x0, x1, x2] [y0, y1, y2] = x0 * y0 + x1 * y1 + x2 * y2 := by
  rw [dot_cons, dot_cons, dot_cons, dot_nil]; omega
def rowsX (n : Nat) (m : Int) : List Int := m :: List.replicate n 0
def rowsY (n : Nat) (r : Int) : List Int := r :: List.replicate n 1
theorem zip_rep (f : Int → Int → Int) (n : Nat) (x y : Int) : List.zipWith f (List.replicate n x) (List.replicate n y) = List.replicate n (f x y) := by
  simp
theorem sum_rep (n : Nat) (x : Int) : (List.replicate n x).sum = n * x := by
  induction n with
  | zero => simp
  | succ k ih => rw [List.replicate_succ, List.sum_cons, ih]; push_cast; grind
theorem dot_rep (n : Nat) (x y u v : Int) : dot (x :: List.replicate n u) (y :: List.replicate n v) = x * y + n * (u * v) := by
  rw [dot_cons]; unfold dot; rw [zip_rep, sum_rep]
theorem lin_rows (n : Nat) (m r a b : Int) : lin [a, b] (rowsX n m) (rowsY n r) = (a * m + b * r) :: List.replicate n b := by
  unfold lin rowsX rowsY
  rw [List.zipWith_cons_cons, zip_rep]
  simp only [List.getD_cons_zero, List.getD_cons_succ]
  congr 2; grind
theorem xx (n : Nat) (m : Int) : dot (rowsX n m) (rowsX n m) = m * m := by
  unfold rowsX; rw [dot_rep]; grind
theorem yx (n : Nat) (m r : Int) : dot (rowsY n r) (rowsX n m) = r * m := by
  unfold rowsX rowsY; rw [dot_rep]; grind
theorem yy (n : Nat) (r : Int) : dot (rowsY n r) (rowsY n r) = r * r + n := by
  unfold rowsY; rw [dot_rep]; grind
theorem gcdet (n : Nat) (m r : Int) : dot (rowsX n m) (rowsX n m) * dot (rowsY n r) (rowsY n r) - dot (rowsY n r) (rowsX n m) * dot (rowsY n r) (rowsX n m) = m * m * n := by
  rw [xx, yx, yy]; grind
theorem law_inv0 {n : Nat} {m r M : Int} (hn : 0 < n) (hm : 0 < m) (h1 : m * m ≤ M) (h2 : r * r + n ≤ M) :
    LInv (rowsX n m) (rowsY n r) M (dot (rowsX n m) (rowsX n m) * dot (rowsY n r) (rowsY n r) - dot (rowsY n r) (rowsX n m) * dot (rowsY n r) (rowsX n m)) (rowsX n m) (rowsY n r) [1, 0] [0, 1] (dot (rowsX n m) (rowsX n m)) (dot (rowsY n r) (rowsX n m)) := by
  refine ⟨rfl, by simp [rowsX, rowsY], rfl, rfl, ?_, ?_, .inl rfl, rfl, rfl, rfl, ?_, ?_, ?_, ?_⟩
  · rw [lin_rows]; unfold rowsX; congr 1; grind
  · rw [lin_rows]; unfold rowsY; congr 1; grind
  · rw [xx]; exact Int.mul_pos hm hm
  · rw [gcdet]; exact Int.mul_pos (Int.mul_pos hm hm) (by omega)
  · rw [xx]; exact h1
  · rw [yy]; exact h2
theorem law_hA {n : Nat} {m r M : Int} (hn : 0 < n) (hm : 0 < m) (hr : 0 ≤ r) (hr2 : r ≤ 100) (hM : M < 2 ^ 28) : ∀ a : List Int, a.length = 2 → dot (lin a (rowsX n m) (rowsY n r)) (lin a (rowsX n m) (rowsY n r)) ≤ M → ∀ x ∈ a, -2 ^ 64 < x ∧ x < 2 ^ 64 := by
  intro a ha h x hx
  obtain ⟨a, b, rfl⟩ := LInv.two ha
  rw [lin_rows, dot_rep] at h
  have hb1 : b * b ≤ n * (b * b) := by
    have := Int.mul_le_mul_of_nonneg_right (show (1 : Int) ≤ n by omega) (sq_nonneg b)
    omega
  have hp := sq_nonneg (a * m + b * r)
  have hb0 := sq_nonneg b
  have hb := abs_of_sq (show b * b ≤ M by omega)
  have hc := abs_of_sq (show (a * m + b * r) * (a * m + b * r) ≤ M by omega)
  have hM0 : 0 ≤ M := by omega
  have hbr : -(100 * M) ≤ b * r ∧ b * r ≤ 100 * M := by
    have e1 : b * r ≤ M * r := Int.mul_le_mul_of_nonneg_right hb.2 hr
    have e2 : -M * r ≤ b * r := Int.mul_le_mul_of_nonneg_right hb.1 hr
    have e3 : M * r ≤ M * 100 := Int.mul_le_mul_of_nonneg_left hr2 hM0
    rw [Int.neg_mul] at e2
    omega
  have ham : -(101 * M) ≤ a * m ∧ a * m ≤ 101 * M := by omega
  have habs : -(101 * M) ≤ a ∧ a ≤ 101 * M := by
    rcases Int.lt_trichotomy a 0 with h0 | h0 | h0
    · have e1 : a * m ≤ a * 1 := Int.mul_le_mul_of_nonpos_left (by omega) (by omega)
      omega
    · omega
    · have e1 : a * 1 ≤ a * m := Int.mul_le_mul_of_nonneg_left (by omega) (by omega)
      omega
  rcases List.mem_cons.mp hx with rfl | hx
  · omega
  rcases List.mem_cons.mp hx with rfl | hx
  · omega
  · cases hx
theorem law_end {n : Nat} {m r q M s1 l : Int} {b0 b1 a0 a1 : List Int} (hn : 0 < n) (hn2 : n ≤ 2) (hm : 0 < m) (hq : m * q = r * r + n)
    (inv : LInv (rowsX n m) (rowsY n r) M (dot (rowsX n m) (rowsX n m) * dot (rowsY n r) (rowsY n r) - dot (rowsY n r) (rowsX n m) * dot (rowsY n r) (rowsX n m)) b0 b1 a0 a1 s1 l)
    (h1 : -s1 ≤ 2 * l) (h2 : 2 * l ≤ s1) (h3 : s1 * s1 ≤ (dot (rowsX n m) (rowsX n m) * dot (rowsY n r) (rowsY n r) - dot (rowsY n r) (rowsX n m) * dot (rowsY n r) (rowsX n m)) + l * l) :
    dot b0 b0 = m ∧ dot b0 b1 = 0 ∧ dot b1 b1 = n * m := by
  have i := inv
  rw [gcdet] at i h3
  obtain ⟨a, b, rfl⟩ := LInv.two i.la0
  obtain ⟨c, d, rfl⟩ := LInv.two i.la1
  have e0 := i.lin0
  have e1 := i.lin1
  rw [lin_rows] at e0 e1
  have f1 : s1 = m * (m * a * a + 2 * a * b * r + q * b * b) := by
    rw [i.hs1, e0, dot_rep]; grind
  have f2 : l = m * (m * a * c + r * (a * d + b * c) + q * b * d) := by
    rw [i.hl, e0, e1, dot_rep]; grind
  have f3 : dot b1 b1 = m * (m * c * c + 2 * c * d * r + q * d * d) := by
    rw [e1, dot_rep]; grind
  have f4 := i.hs2
  rw [← i.hs1, f3] at f4
  have p1 := i.p1
  have hb1 := i.hl
  have hb0 := i.hs1
  clear i inv e0 e1
  generalize m * a * a + 2 * a * b * r + q * b * b = A at *
  generalize m * a * c + r * (a * d + b * c) + q * b * d = B at *
  generalize m * c * c + 2 * c * d * r + q * d * d = C at *
  subst f1 f2
  have hA : 0 < A := Int.lt_of_mul_lt_mul_left (a := m) (by rw [Int.mul_zero]; exact p1) (by omega)
  have g1 : -A ≤ 2 * B := by
    refine Int.le_of_mul_le_mul_left (a := m) ?_ hm
    grind
  have g2 : 2 * B ≤ A := by
    refine Int.le_of_mul_le_mul_left (a := m) ?_ hm
    grind
  have hmm : 0 < m * m := Int.mul_pos hm hm
  have g3 : (n : Int) = A * C - B * B := by
    refine Int.eq_of_mul_eq_mul_left (a := m * m) (by omega) ?_
    grind
  have g4 : A * A ≤ n + B * B := by
    refine Int.le_of_mul_le_mul_left (a := m * m) ?_ hmm
    grind
  have g5 : A = 1 := by
    rcases (by omega : A = 1 ∨ 2 ≤ A) with h | h
    · exact h
    · exfalso
      have u : (2 * B) * (2 * B) ≤ A * A := by
        rcases Int.le_total 0 B with hB | hB
        · exact Int.mul_le_mul g2 g2 (by omega) (by omega)
        · have := Int.mul_le_mul (show -(2 * B) ≤ A by omega) (show -(2 * B) ≤ A by omega) (by omega) (by omega)
          rwa [Int.neg_mul_neg] at this
      have v : 2 * 2 ≤ A * A := Int.mul_le_mul h h (by omega) (by omega)
      have : (2 * B) * (2 * B) = 4 * (B * B) := by grind
      omega
  subst g5
  have g6 : B = 0 := by omega
  subst g6
  have g7 : C = n := by omega
  subst g7
  refine ⟨?_, ?_, ?_⟩
  · rw [← hb0]; omega
  · rw [dot_comm, ← hb1]; omega
  · rw [f3]; grind
end Mine
end
section -- Comp
set_option maxRecDepth 100000
open PySem PySem.W PySem.Calls PyProof.Rows PyProof.V PySem.Spec PyProof.Rows.LCg
namespace Mine

/-- every object of h outside ex stands in h' as it stood -/
def Ext (ex : List Addr) (h h' : Heap) : Prop := ∀ b o, b ∉ ex → h.get? b = some o → h'.get? b = some o
theorem Ext.refl {ex : List Addr} {h : Heap} : Ext ex h h := fun _ _ _ e => e
theorem Ext.trans {ex : List Addr} {h h' h'' : Heap} (a : Ext ex h h') (b : Ext ex h' h'') : Ext ex h h'' := fun c o n e => b c o n (a c o n e)
theorem Ext.mono {ex ex' : List Addr} {h h' : Heap} (a : Ext ex h h') (s : ∀ b ∈ ex, b ∈ ex') : Ext ex' h h' := fun c o n e => a c o (fun m => n (s c m)) e
theorem Ext.of_same {ex : List Addr} {c : Addr} {h h' : Heap} (a : Heap.SameBut c h h') (m : c ∈ ex) : Ext ex h h' := fun b o n e => a.extBut b o (fun q => n (q ▸ m)) e
theorem Ext.of_keeps {ex : List Addr} {h h' : Heap} (a : ∀ b o, h.get? b = some o → h'.get? b = some o) : Ext ex h h' := fun b o _ e => a b o e

section
variable {prog : Program} {w : World} {A : Around} {E : Value → Shared → Prop} {s : Shared}

theorem comp_loop {elt iter target : PySem.Expr} {scope : Scope} {pos : Pos} {cenv : Env} {I D : Addr} {fp wr X ex : List Addr} {n : Nat} {P Md : Nat → Value → Heap → Prop} {St : Nat → Heap → Prop} {H h₁ : Heap} {tk₁ : Nat} {R : Result → Shared → Prop}
    (W : KTurns prog w A target I fp wr n P Md St) (hsz : n ≤ sizeLine)
    (hX : ∀ b ∈ X, b ∉ fp) (hDf : D ∉ fp) (hDX : D ∉ X) (heX : ∀ b ∈ X, b ∈ ex) (heD : D ∈ ex) (hew : ∀ b ∈ wr, b ∈ ex)
    (Z : Heap → Prop) (hZ : ∀ h h' : Heap, Z h → (∀ b ∈ X, ∀ o, h.get? b = some o → h'.get? b = some o) → Z h')
    (Y : Nat → Value → Heap → Prop) (hY : ∀ i y (h h' : Heap), Y i y h → Ext ex h h' → Y i y h')
    (turn : ∀ i v h tk (E' : Value → Shared → Prop), i < n → P i v h → Z h → Ext ex H h →
      wpAny (model prog w) A (assign target cenv v) (fun _ s₂ => wpAny (model prog w) A (eval elt cenv) (fun y s₃ => ∃ h' tk', s₃ = { s with heap := h', toks := tk' } ∧ Ext X h h' ∧ Z h' ∧ Y i y h') E' s₂) E' { s with heap := h, toks := tk })
    (done : ∀ ys h tk, ys.length = n → (∀ (j : Nat) y, ys[j]? = some y → Y j y h) → h.get? D = some (lst ys) → Z h → Ext ex H h → R (.ok .next) { s with heap := h, toks := tk })
    (hst : St 0 h₁) (hz : Z h₁) (hd : h₁.get? D = some (lst [])) (hk : Ext ex H h₁) :
    codeAny (model prog w) A (.compLoop (.ListComp elt [⟨target, iter, [], 0⟩] scope pos) 0 (.ref I) (.ref D) cenv) R { s with heap := h₁, toks := tk₁ } := by
  refine kcp_loop (fun k s' => ∃ h tk i ys, s' = { s with heap := h, toks := tk } ∧ i ≤ n ∧ k = n + 1 - i ∧ ys.length = i ∧ (∀ (j : Nat) y, ys[j]? = some y → Y j y h) ∧ St i h ∧ Z h ∧ h.get? D = some (lst ys) ∧ Ext ex H h) ?_ (n + 1)
    ⟨h₁, tk₁, 0, [], rfl, Nat.zero_le _, rfl, rfl, fun j y q => by simp at q, hst, hz, hd, hk⟩
  rintro k s' ⟨h, tk, i, ys, rfl, hi, rfl, hyl, hys, hst, hz, hD, hk⟩
  have hwX : ∀ b ∈ X, b ∉ wr := fun b hb hw => hX b hb (W.sub b hw)
  have hwD : D ∉ wr := fun hw => hDf (W.sub D hw)
  by_cases hlt : i < n
  · refine W.item i _ _ _ hlt hst fun v h₂ tk₂ hMd hk₂ => ?_
    refine W.go i v _ _ _ hMd fun h₃ hP hst₃ hk₃ => ?_
    have up : ∀ b o, b ∉ wr → h.get? b = some o → h₃.get? b = some o := fun b o hb e => hk₃ b o hb (hk₂ b o hb e)
    have ue : Ext ex h h₃ := fun b o hb e => up b o (fun q => hb (hew b q)) e
    have hz₃ : Z h₃ := hZ _ _ hz fun b hb o e => up b o (hwX b hb) e
    refine wpAny_mono (turn i v h₃ tk₂ _ hlt hP hz₃ (hk.trans ue)) (fun _ s₂ h₂' => wpAny_mono h₂' (fun y s₃ h₃' => ?_) fun _ _ e => e) fun _ _ e => e
    obtain ⟨h₄, tk₄, rfl, hx₄, hz₄, hy₄⟩ := h₃'
    have hD₄ : h₄.get? D = some (lst ys) := hx₄ D _ hDX (up D _ hwD hD)
    have ue₄ : Ext ex h₃ h₄ := hx₄.mono heX
    refine append_at (hsz := by show ys.toArray.size ≤ sizeLine; rw [List.size_toArray, hyl]; exact Nat.le_trans hi hsz) hD₄ fun h₅ hs₅ hD₅ => ?_
    have ue₅ : Ext ex h₄ h₅ := Ext.of_same hs₅ heD
    refine ⟨n + 1 - (i + 1), by omega, h₅, tk₄, i + 1, ys ++ [y], rfl, hlt, rfl, by rw [List.length_append, List.length_singleton, hyl], ?_, ?_, ?_, ?_, ?_⟩
    · intro j y' hj
      by_cases hjl : j < ys.length
      · rw [List.getElem?_append_left hjl] at hj
        exact hY _ _ _ _ (hys j y' hj) (ue.trans (ue₄.trans ue₅))
      · have hj' : j = i := by
          have : j < (ys ++ [y]).length := by
            rcases Nat.lt_or_ge j (ys ++ [y]).length with q | q
            · exact q
            · rw [List.getElem?_eq_none q] at hj; cases hj
          rw [List.length_append, List.length_singleton] at this
          omega
        subst hj'
        rw [List.getElem?_append_right (by omega)] at hj
        have e0 : j - ys.length = 0 := by omega
        rw [e0] at hj
        simp at hj
        subst hj
        exact hY _ _ _ _ hy₄ ue₅
    · refine W.frame _ _ _ hst₃ fun b hb o e => ?_
      have e₄ := hx₄ b o (fun q => hX b q hb) e
      exact hs₅.extBut b o (fun q => hDf (q ▸ hb)) e₄
    · exact hZ _ _ hz₄ fun b hb o e => hs₅.extBut b o (fun q => hDX (q ▸ hb)) e
    · exact hD₅.trans (congrArg some (lst_snoc ys y))
    · exact hk.trans (ue.trans (ue₄.trans ue₅))
  · have hin : i = n := Nat.le_antisymm hi (Nat.not_lt.mp hlt)
    subst hin
    refine W.done _ _ _ hst fun h₂ tk₂ hk₂ => ?_
    have ue : Ext ex h h₂ := fun b o hb e => hk₂ b o (fun q => hb (hew b q)) e
    exact done ys h₂ tk₂ hyl (fun j y q => hY _ _ _ _ (hys j y q) ue) (hk₂ D _ hwD hD) (hZ _ _ hz fun b hb o e => hk₂ b o (hwX b hb) e) (hk.trans ue)

/-- what a block's turns ask, ahead of its list and its frame (no cell among the block's own names) -/
inductive CompAt (prog : Program) (w : World) (A : Around) (env : Env) (elt target : PySem.Expr) (scope : Scope) (cl : List (Str × Addr)) (Q : Value → Shared → Prop) (it : Value) (s₂ : Shared) : Prop
  | mk (I : Addr) (fp wr : List Addr) (n : Nat) (P Md : Nat → Value → Heap → Prop) (St : Nat → Heap → Prop) (Y : Nat → Value → Heap → Prop)
    (h0 : it = .ref I)
    (h1 : KTurns prog w A target I fp wr n P Md St)
    (h2 : n ≤ sizeLine)
    (h3 : (∀ b ∈ fp, b < s₂.heap.objs.size))
    (h4 : St 0 s₂.heap)
    (h5 : A.handled = none)
    (h6 : (∀ (s₃ : Shared) (Q' : Value → Shared → Prop) (E' : Value → Shared → Prop), St 0 s₃.heap → Q' (.ref I) s₃ → wpAny (model prog w) A (pyIter (.ref I)) Q' E' s₃))
    (h7 : (∀ i y (h h' : Heap), Y i y h → Ext ((s₂.heap.objs.size + 1) :: s₂.heap.objs.size :: wr) h h' → Y i y h'))
    (h8 : (∀ i v h tk m₂ (E' : Value → Shared → Prop), i < n → P i v h → h.Ns (s₂.heap.objs.size + 1) m₂ → Ext ((s₂.heap.objs.size + 1) :: s₂.heap.objs.size :: wr) s₂.heap h →
      wpAny (model prog w) A (assign target (compEnvC scope cl (s₂.heap.objs.size + 1) env) v) (fun _ s₃ => wpAny (model prog w) A (eval elt (compEnvC scope cl (s₂.heap.objs.size + 1) env))
        (fun y s₄ => ∃ h' tk', s₄ = { s₂ with heap := h', toks := tk' } ∧ Ext [s₂.heap.objs.size + 1] h h' ∧ (∃ m, h'.Ns (s₂.heap.objs.size + 1) m) ∧ Y i y h') E' s₃) E' { s₂ with heap := h, toks := tk }))
    (h9 : (∀ ys h tk, ys.length = n → (∀ (j : Nat) y, ys[j]? = some y → Y j y h) → h.get? s₂.heap.objs.size = some (lst ys) → Ext ((s₂.heap.objs.size + 1) :: s₂.heap.objs.size :: wr) s₂.heap h → Q (.ref s₂.heap.objs.size) { s₂ with heap := h, toks := tk })) : CompAt prog w A env elt target scope cl Q it s₂

theorem comp_eval {elt iter target : PySem.Expr} {scope : Scope} {cl : List (Str × Addr)} {pos : Pos} {env : Env} {Q : Value → Shared → Prop}
    (hclos : closureFor scope env = pure cl) (hcell : ∀ y ∈ scope.names, y.2 ≠ .cell) (hkind : scope.kind = .function)
    (hnames : ∀ y ∈ scope.names, y.2 = .local → scope.names.lookup y.1 = some .local)
    (h : wpAny (model prog w) A (eval iter env) (fun xv s₁ => wpAny (model prog w) A (pyIter xv) (CompAt prog w A env elt target scope cl Q) E s₁) E s)
    (hs : ∀ x, foldedSetIterable iter env x = pure x := by intro _; rfl) :
    wpAny (model prog w) A (eval (.ListComp elt [⟨target, iter, [], 0⟩] scope pos) env) Q E s := by
  rw [eval_ListComp]
  refine wpAny_comprehension_free (use := none) rfl hs hclos hkind hnames (wpAny_mono h (fun xv s₁ h₁ => wpAny_mono h₁ (fun it s₂ h₂ => ?_) fun _ _ e => e) fun _ _ e => e)
  obtain ⟨I, fp, wr, n, P, Md, St, Y, rfl, W, hsz, hfp, hst, hh, self, hY, turn, done⟩ := h₂
  refine wpAny_newObj_type (wpAny_newFunctionEnv hcell (by intro y hy; simp at hy) (fun h₁ hns₁ hsb₁ => ?_) hkind)
  dsimp only at hns₁ hsb₁ ⊢
  generalize hH2 : s₂.heap.push { cls := .type "list", dict := none, data := .seq ([] : List Value).toArray } = H2 at hns₁ hsb₁ ⊢
  have hC : H2.objs.size = s₂.heap.objs.size + 1 := by rw [← hH2, Heap.size_push]
  rw [hC] at hns₁ hsb₁
  have hDC : s₂.heap.objs.size ≠ s₂.heap.objs.size + 1 := Nat.ne_of_lt (Nat.lt_succ_self _)
  have old : ∀ b o, s₂.heap.get? b = some o → h₁.get? b = some o := fun b o e => hsb₁.extBut b o (fun q => absurd (Heap.lt_size e) (by rw [q]; exact Nat.not_lt.mpr (Nat.le_succ _))) (Heap.get?_push_of_some _ (hH2 ▸ Heap.get?_push_of_some _ e))
  have hacc : h₁.get? s₂.heap.objs.size = some (lst []) := hsb₁.extBut _ _ hDC (Heap.get?_push_of_some _ (hH2 ▸ Heap.get?_push_size _ rfl))
  have hst₁ : St 0 h₁ := W.frame _ _ _ hst fun b _ o e => old b o e
  have loop : ∀ s₃ : Shared, s₃ = { s₂ with heap := h₁, toks := s₂.toks + ([] : List (Str × Value)).length } →
      codeAny (model prog w) A (.compLoop (.ListComp elt [⟨target, iter, [], 0⟩] scope pos) 0 (.ref I) (.ref s₂.heap.objs.size) (compEnvC scope cl (s₂.heap.objs.size + 1) env))
        (compPost (model prog w) A E none Q (.ref s₂.heap.objs.size) (s₂.heap.objs.size + 1)) s₃ := by
    rintro s₃ rfl
    refine comp_loop (X := [s₂.heap.objs.size + 1]) (ex := (s₂.heap.objs.size + 1) :: s₂.heap.objs.size :: wr) (H := s₂.heap) W hsz ?_ ?_ ?_ ?_ ?_ ?_ (fun h => ∃ m, h.Ns (s₂.heap.objs.size + 1) m) ?_ Y hY ?_ ?_ hst₁ ⟨_, hns₁⟩ hacc (Ext.of_keeps old)
    · intro b hb hf
      have := hfp b hf
      rw [List.mem_singleton.mp hb] at this
      exact absurd this (Nat.not_lt.mpr (Nat.le_succ _))
    · exact fun hf => absurd (hfp _ hf) (Nat.lt_irrefl _)
    · exact fun hm => hDC (List.mem_singleton.mp hm)
    · exact fun b hb => (List.mem_singleton.mp hb) ▸ List.mem_cons_self ..
    · exact List.mem_cons_of_mem _ (List.mem_cons_self ..)
    · exact fun b hb => List.mem_cons_of_mem _ (List.mem_cons_of_mem _ hb)
    · rintro h h' ⟨m, hm⟩ hk
      exact ⟨m, hm.at' fun o e => hk _ (List.mem_singleton.mpr rfl) o e⟩
    · rintro i v h tk E' hi hP ⟨m, hm⟩ hx
      exact turn i v h tk m E' hi hP hm hx
    · rintro ys h tk hl hys hD ⟨m, hm⟩ hx
      refine ⟨m, hm, fun h'' hs'' => ?_⟩
      have ue : Ext ((s₂.heap.objs.size + 1) :: s₂.heap.objs.size :: wr) h h'' := Ext.of_same hs'' (List.mem_cons_self ..)
      exact done ys h'' tk hl (fun j y q => hY _ _ _ _ (hys j y q) ue) (hs''.extBut _ _ hDC hD) (hx.trans ue)
  have e0 : (newEnv scope H2.objs.size env.globals cl env.qual none Value.none (some env) builtinsNs) = newEnv scope (s₂.heap.objs.size + 1) env.globals cl env.qual none Value.none (some env) builtinsNs := by rw [hC]
  rw [e0]
  exact codeAny_compStart_list (loop _ rfl) (self _ _ _ hst₁ (loop _ rfl))
end
end Mine
end
section -- Zip
set_option maxRecDepth 100000
open PySem PySem.W PySem.Calls PyProof.Rows PyProof.V PySem.Spec PyProof.Rows.LCg
namespace Mine
section
variable {prog : Program} {w : World} {A : Around} {E : Value → Shared → Prop} {s : Shared}

theorem alive_ {a : Addr} {Q : Option Obj → Shared → Prop} (h : Q (s.heap.get? a) s) : wpAny (model prog w) A (loadIfAlive a) Q E s := fun _ _ _ => h

/-- a tuple's iterator draws its items -/
theorem draws_tuple (hh : A.handled = none) (it t : Addr) (hne : t ≠ it) (items : Array Value) :
    Draws prog w A it [it, t] items.size (fun i v => items[i]? = some v) (fun i h => h.IsTupleIter it t i ∧ h.IsTuple t items) where
  live := fun _ _ st => let ⟨o, ho, _⟩ := st.1; ⟨o, ho⟩
  frame := fun _ _ _ st hk => ⟨st.1.at fun o e => hk it (by simp) o e, by obtain ⟨o, e, r⟩ := st.2; exact ⟨o, hk t (by simp) o e, r⟩⟩
  item := fun i s Q E hi st hQ => by
    obtain ⟨hit, ht⟩ := st
    obtain ⟨o, ho, hc, hd⟩ := id hit
    obtain ⟨ol, hol, hcl, nl, hdl⟩ := id ht
    have hx : items[i]? = some items[i] := Array.getElem?_eq_getElem hi
    unfold Builtin.SmallTypes.nextOf
    refine wpAny_bind (wpAny_callSpecial?_slot (name := Str.ofString "__next__") hit.typeIs F.slot_tuple_iterator_next
      (wpAny_call_entry F.slot_tuple_iterator_next hit.typeIs F.entry_tuple_iterator_next ?_ (F.args_tuple_iterator_next_1 _)))
    show wpAny _ _ (field (.ref it) 0 >>= _) _ _ s
    refine wpAny_bind (wpAny_field ho hd (x := .ref t) rfl ?_)
    show wpAny _ _ (if (Value.ref t == Value.none) = true then _ else _) _ _ s
    rw [if_neg (show ¬ ((Value.ref t == Value.none) = true) from Bool.false_ne_true)]
    show wpAny _ _ (field (.ref it) 1 >>= _) _ _ s
    refine wpAny_bind (wpAny_field ho hd (x := .int i 0) rfl ?_)
    show wpAny _ _ (seqItems? (.ref t) >>= _) _ _ s
    refine wpAny_bind (wpAny_seqItems hol hdl ?_)
    simp only [Int.toNat_natCast, hx]
    refine wpAny_bind (wpAny_setField ho hd (by simp) (wpAny_pure ⟨_, rfl, wpAny_pure (hQ _ _ s.toks hx ⟨?_, ht.extBut (Heap.SameBut.update ..).extBut hne⟩ (Heap.SameBut.update ..))⟩))
    exact ⟨_, Heap.get?_update_self _ ho (Obj.isFreed_of_fields (Obj.data_mapFields hd _)), (Obj.cls_mapFields ..).trans hc, by
      rw [Obj.data_mapFields hd]; simp [rawInt]⟩
  done := fun s Q E st hE => by
    obtain ⟨hit, ht⟩ := st
    obtain ⟨o, ho, hc, hd⟩ := id hit
    obtain ⟨ol, hol, hcl, nl, hdl⟩ := id ht
    have hx : items[items.size]? = none := Array.getElem?_eq_none (Nat.le_refl _)
    unfold Builtin.SmallTypes.nextOf
    refine wpAny_bind (wpAny_callSpecial?_slot (name := Str.ofString "__next__") hit.typeIs F.slot_tuple_iterator_next
      (wpAny_call_entry F.slot_tuple_iterator_next hit.typeIs F.entry_tuple_iterator_next ?_ (F.args_tuple_iterator_next_1 _)))
    show wpAny _ _ (field (.ref it) 0 >>= _) _ _ s
    refine wpAny_bind (wpAny_field ho hd (x := .ref t) rfl ?_)
    show wpAny _ _ (if (Value.ref t == Value.none) = true then _ else _) _ _ s
    rw [if_neg (show ¬ ((Value.ref t == Value.none) = true) from Bool.false_ne_true)]
    show wpAny _ _ (field (.ref it) 1 >>= _) _ _ s
    refine wpAny_bind (wpAny_field ho hd (x := .int (items.size : Nat) 0) rfl ?_)
    show wpAny _ _ (seqItems? (.ref t) >>= _) _ _ s
    refine wpAny_bind (wpAny_seqItems hol hdl ?_)
    simp only [Int.toNat_natCast, hx]
    refine wpAny_bind (wpAny_rule (wpAny_bind (wpAny_setField ho hd (by simp) ?_)))
    show wpAny _ _ (newExc (.type "StopIteration") [] >>= _) _ _ _
    refine wpAny_bind ?_
    simp only [newExc, newTuple]
    refine wpAny_bind (wpAny_newObj_type ?_ (by size_fits))
    refine wpAny_bind (m := firstArgMember _ _) (wpAny_of_eq (a := Value.none) (by first | rfl | (simp only [firstArgMember]; rfl)) ?_)
    refine wpAny_newObj_type ?_ (by size_fits)
    simp only [raiseNew]
    refine wpAny_bind (wpAny_handled ?_)
    first | rw [show A.in1.handled = none from hh] | rw [hh]
    refine wpAny_bind (wpAny_pure (wpAny_throw ?_))
    exact hE _ _ (((Heap.SameBut.update ..).extBut.push _).push _) ⟨_, Heap.get?_push_size _ rfl, rfl⟩

abbrev zrec (f0 : Value) (f1 : Bool) (TI TO : Addr) : Obj := { cls := .type "zip", dict := none, data := .fields #[f0, .bool f1, .bool false, .ref TI, .ref TO], slots := #[] }
/-- a zip over the iterators in TI, at rest between two draws -/
def ZipG (h : Heap) (z TI TO : Addr) : Prop := ∃ f0 f1, (f0 = Value.none ∨ ∃ (a : Int) (t : Tok), f0 = .int a t) ∧ h.get? z = some (zrec f0 f1 TI TO)

structure ZApart (z TI TO i1 i2 : Addr) (fp1 fp2 : List Addr) : Prop where
  zTI : z ≠ TI
  zTO : z ≠ TO
  TITO : TI ≠ TO
  z1 : z ∉ fp1
  z2 : z ∉ fp2
  TI1 : TI ∉ fp1
  TI2 : TI ∉ fp2
  TO1 : TO ∉ fp1
  TO2 : TO ∉ fp2
  m1 : i1 ∈ fp1
  m2 : i2 ∈ fp2
  n12 : i1 ∉ fp2
  n21 : i2 ∉ fp1

theorem nmem_ne {a b : Addr} {l : List Addr} (h : a ∉ l) (m : b ∈ l) : a ≠ b := fun e => h (e ▸ m)

theorem zip_free {z TI TO : Addr} {Q : Bool → Shared → Prop} (hz : ZipG s.heap z TI TO)
    (h : ∀ b h', ZipG h' z TI TO → Heap.SameBut z s.heap h' → Q b { s with heap := h' }) : wpAny (model prog w) A (Builtin.SmallTypes.ownedTupleIsFree (.ref z)) Q E s := by
  obtain ⟨f0, f1, hf, hg⟩ := hz
  unfold Builtin.SmallTypes.ownedTupleIsFree
  refine wpAny_bind (wpAny_field hg rfl (x := f0) rfl ?_)
  rcases hf with rfl | ⟨a, t, rfl⟩
  · exact wpAny_pure (h _ _ ⟨_, _, .inl rfl, hg⟩ (Heap.SameBut.refl ..))
  · refine wpAny_bind (alive_ ?_)
    split
    · exact wpAny_pure (h _ _ ⟨_, _, .inr ⟨_, _, rfl⟩, hg⟩ (Heap.SameBut.refl ..))
    · refine wpAny_bind (wpAny_field hg rfl (x := .bool f1) rfl ?_)
      split
      · refine wpAny_bind (wpAny_setField_rec hg (by simp) fun h' hg' hs' => ?_)
        exact wpAny_pure (h _ _ ⟨_, true, .inr ⟨_, _, rfl⟩, hg'⟩ hs')
      · exact wpAny_pure (h _ _ ⟨_, _, .inr ⟨_, _, rfl⟩, hg⟩ (Heap.SameBut.refl ..))

section
variable {z TI TO i1 i2 : Addr} {fp1 fp2 : List Addr} {n i : Nat} {P1 P2 : Nat → Value → Prop} {St1 St2 : Nat → Heap → Prop}

theorem zip_next (D1 : Draws prog w A i1 fp1 n P1 St1) (D2 : Draws prog w A i2 fp2 n P2 St2) (X : ZApart z TI TO i1 i2 fp1 fp2) {Q : Value → Shared → Prop}
    (hz : ZipG s.heap z TI TO) (hTI : IsPair s.heap TI (.ref i1) (.ref i2)) (hTO : ∃ a b, IsPair s.heap TO a b) (h1 : St1 i s.heap) (h2 : St2 i s.heap) (hi : i < n)
    (hQ : ∀ x y T h' tk, P1 i x → P2 i y → ZipG h' z TI TO → (∃ a b, IsPair h' TO a b) → St1 (i + 1) h' → St2 (i + 1) h' → IsPair h' T x y → T ≠ z → T ≠ TO → T ≠ i1 → T ≠ i2 → s.heap.get? T = none →
      (∀ c o, c ≠ z → c ≠ TO → c ≠ i1 → c ≠ i2 → s.heap.get? c = some o → h'.get? c = some o) → Q (.ref T) { s with heap := h', toks := tk }) :
    wpAny (model prog w) A (Builtin.«zip.__next__» ⟨[.ref z], []⟩) (fun fin s' => ∃ v, fin = .done (.ret v) ∧ Q v s') E s := by
  obtain ⟨f0, f1, hf, hg⟩ := id hz
  have zi1 : z ≠ i1 := nmem_ne X.z1 X.m1
  have zi2 : z ≠ i2 := nmem_ne X.z2 X.m2
  have TOi1 : TO ≠ i1 := nmem_ne X.TO1 X.m1
  have TOi2 : TO ≠ i2 := nmem_ne X.TO2 X.m2
  have TIi1 : TI ≠ i1 := nmem_ne X.TI1 X.m1
  have TIi2 : TI ≠ i2 := nmem_ne X.TI2 X.m2
  have i12 : i1 ≠ i2 := nmem_ne X.n12 X.m2
  show wpAny _ _ (field (.ref z) 2 >>= _) _ _ _
  refine wpAny_bind (wpAny_field hg rfl (x := .bool false) rfl ?_)
  show wpAny _ _ (field (.ref z) 3 >>= _) _ _ _
  refine wpAny_bind (wpAny_field hg rfl (x := .ref TI) rfl ?_)
  refine wpAny_bind (wpAny_seqItems hTI rfl ?_)
  show wpAny _ _ (Builtin.SmallTypes.ownedTupleIsFree (.ref z) >>= _) _ _ _
  refine wpAny_bind (zip_free hz fun b h₀ hz₀ hs₀ => ?_)
  have k0 : ∀ {c}, c ≠ z → ∀ o, s.heap.get? c = some o → h₀.get? c = some o := fun hc o e => hs₀.extBut _ _ hc e
  obtain ⟨a0, b0, hTO⟩ := hTO
  have hTO₀ : IsPair h₀ TO a0 b0 := k0 X.zTO.symm _ hTO
  have h1₀ : St1 i h₀ := D1.frame _ _ _ h1 fun c hc o e => k0 (nmem_ne X.z1 hc).symm o e
  have h2₀ : St2 i h₀ := D2.frame _ _ _ h2 fun c hc o e => k0 (nmem_ne X.z2 hc).symm o e
  have sz0 : h₀.objs.size = s.heap.objs.size := hs₀.1
  obtain ⟨g0, g1, hgf, hgz⟩ := id hz₀
  cases b with
  | true =>
    simp only [if_true]
    refine wpAny_bind (wpAny_rule ?_)
    refine wpAny_bind (wpAny_field hgz rfl (x := .ref TO) rfl ?_)
    refine wpAny_bind (wpAny_setField_rec hgz (by simp) fun h₁ hz₁ hs₁ => ?_)
    replace hz₁ : h₁.get? z = some (zrec .ellipsis g1 TI TO) := hz₁
    refine wpAny_bind ?_
    simp only [List.zipIdx_cons, List.zipIdx_nil, List.forIn_cons, List.forIn_nil]
    refine wpAny_bind (wpAny_bind (wpAny_onRaise ?_))
    show wpAny _ _ (Builtin.SmallTypes.nextOf (.ref i1) >>= _) _ _ _
    have h1₁ : St1 i h₁ := D1.frame _ _ _ h1₀ fun c hc o e => hs₁.extBut _ _ (nmem_ne X.z1 hc).symm e
    have h2₁ : St2 i h₁ := D2.frame _ _ _ h2₀ fun c hc o e => hs₁.extBut _ _ (nmem_ne X.z2 hc).symm e
    refine wpAny_bind (D1.item i _ _ _ hi h1₁ fun x h₂ tk₂ hx h1₂ hs₂ => wpAny_pure ?_)
    have hTO₂ : IsPair h₂ TO a0 b0 := hs₂.extBut _ _ TOi1 (hs₁.extBut _ _ X.zTO.symm hTO₀)
    have h2₂ : St2 i h₂ := D2.frame _ _ _ h2₁ fun c hc o e => hs₂.extBut _ _ (nmem_ne X.n12 hc).symm e
    refine wpAny_bind (wpAny_seqItems hTO₂ rfl ?_)
    refine wpAny_bind (wpAny_updateSeq_pair hTO₂ fun h₃ hTO₃ hs₃ => ?_)
    replace hTO₃ : IsPair h₃ TO x b0 := hTO₃
    have h1₃ : St1 (i + 1) h₃ := D1.frame _ _ _ h1₂ fun c hc o e => hs₃.extBut _ _ (nmem_ne X.TO1 hc).symm e
    have h2₃ : St2 i h₃ := D2.frame _ _ _ h2₂ fun c hc o e => hs₃.extBut _ _ (nmem_ne X.TO2 hc).symm e
    refine wpAny_bind (wpAny_letGo (wpAny_pure ?_))
    refine wpAny_bind (wpAny_bind (wpAny_onRaise ?_))
    show wpAny _ _ (Builtin.SmallTypes.nextOf (.ref i2) >>= _) _ _ _
    refine wpAny_bind (D2.item i _ _ _ hi h2₃ fun y h₄ tk₄ hy h2₄ hs₄ => wpAny_pure ?_)
    have hTO₄ : IsPair h₄ TO x b0 := hs₄.extBut _ _ TOi2 hTO₃
    have h1₄ : St1 (i + 1) h₄ := D1.frame _ _ _ h1₃ fun c hc o e => hs₄.extBut _ _ (nmem_ne X.n21 hc).symm e
    refine wpAny_bind (wpAny_seqItems hTO₄ rfl ?_)
    refine wpAny_bind (wpAny_updateSeq_pair hTO₄ fun h₅ hTO₅ hs₅ => ?_)
    replace hTO₅ : IsPair h₅ TO x y := hTO₅
    have h1₅ : St1 (i + 1) h₅ := D1.frame _ _ _ h1₄ fun c hc o e => hs₅.extBut _ _ (nmem_ne X.TO1 hc).symm e
    have h2₅ : St2 (i + 1) h₅ := D2.frame _ _ _ h2₄ fun c hc o e => hs₅.extBut _ _ (nmem_ne X.TO2 hc).symm e
    refine wpAny_bind (wpAny_letGo (wpAny_pure (wpAny_pure ?_)))
    refine wpAny_bind (wpAny_seqItems hTO₅ rfl ?_)
    refine wpAny_bind (wpAny_newTuple ?_)
    have hsz : h₅.objs.size = s.heap.objs.size := by rw [hs₅.1, hs₄.1, hs₃.1, hs₂.1, hs₁.1, sz0]
    have hz₅ : h₅.get? z = some (zrec .ellipsis g1 TI TO) := hs₅.extBut _ _ X.zTO (hs₄.extBut _ _ zi2 (hs₃.extBut _ _ X.zTO (hs₂.extBut _ _ zi1 hz₁)))
    have hk₅ : ∀ c o, c ≠ z → c ≠ TO → c ≠ i1 → c ≠ i2 → s.heap.get? c = some o → h₅.get? c = some o := fun c o c1 c2 c3 c4 e =>
      hs₅.extBut _ _ c2 (hs₄.extBut _ _ c4 (hs₃.extBut _ _ c2 (hs₂.extBut _ _ c3 (hs₁.extBut _ _ c1 (k0 c1 _ e)))))
    have hzlt : z < h₅.objs.size := Heap.lt_size hz₅
    have hTOlt : TO < h₅.objs.size := Heap.lt_size hTO₅
    obtain ⟨o1, ho1⟩ := D1.live _ _ h1₅
    obtain ⟨o2, ho2⟩ := D2.live _ _ h2₅
    show wpAny _ _ (Builtin.SmallTypes.ownedTupleHandOut (.ref z) (.ref h₅.objs.size) >>= _) _ _ _
    refine wpAny_bind ?_
    unfold Builtin.SmallTypes.ownedTupleHandOut
    have hz₆ : (h₅.push { cls := .type "tuple", data := .seq #[x, y] }).get? z = some (zrec .ellipsis g1 TI TO) := Heap.get?_push_of_some _ hz₅
    refine wpAny_bind (wpAny_setField_rec hz₆ (by simp) fun h₇ hz₇ hs₇ => ?_)
    replace hz₇ : h₇.get? z = some (zrec (rawInt h₅.objs.size) g1 TI TO) := hz₇
    refine wpAny_setField_rec hz₇ (by simp) fun h₈ hz₈ hs₈ => ?_
    replace hz₈ : h₈.get? z = some (zrec (rawInt h₅.objs.size) false TI TO) := hz₈
    have up : ∀ c o, c ≠ z → h₅.get? c = some o → h₈.get? c = some o := fun c o c1 e => hs₈.extBut _ _ c1 (hs₇.extBut _ _ c1 (Heap.get?_push_of_some _ e))
    have hT₈ : IsPair h₈ h₅.objs.size x y := hs₈.extBut _ _ (Nat.ne_of_gt hzlt) (hs₇.extBut _ _ (Nat.ne_of_gt hzlt) (Heap.get?_push_size _ rfl))
    have hnew : s.heap.get? h₅.objs.size = none := by
      cases e : s.heap.get? h₅.objs.size with
      | none => rfl
      | some o => exact absurd (Heap.lt_size e) (by rw [hsz]; exact Nat.lt_irrefl _)
    refine wpAny_pure ⟨_, rfl, ?_⟩
    exact hQ x y h₅.objs.size h₈ _ hx hy ⟨_, _, .inr ⟨_, _, rfl⟩, hz₈⟩ ⟨_, _, up _ _ X.zTO.symm hTO₅⟩ (D1.frame _ _ _ h1₅ fun c hc o e => up c o (nmem_ne X.z1 hc).symm e) (D2.frame _ _ _ h2₅ fun c hc o e => up c o (nmem_ne X.z2 hc).symm e)
      hT₈ (Nat.ne_of_gt hzlt) (Nat.ne_of_gt hTOlt) (Nat.ne_of_gt (Heap.lt_size ho1)) (Nat.ne_of_gt (Heap.lt_size ho2)) hnew fun c o c1 c2 c3 c4 e => up c o c1 (hk₅ c o c1 c2 c3 c4 e)
  | false =>
    simp only [Bool.false_eq_true, if_false]
    refine wpAny_bind ?_
    rw [← Array.forIn_toList]
    simp only [List.forIn_cons, List.forIn_nil]
    refine wpAny_bind (wpAny_bind (wpAny_holding ?_))
    show wpAny _ _ (Builtin.SmallTypes.nextOf (.ref i1) >>= _) _ _ _
    refine wpAny_bind (D1.item i _ _ _ hi h1₀ fun x h₂ tk₂ hx h1₂ hs₂ => wpAny_pure ?_)
    have h2₂ : St2 i h₂ := D2.frame _ _ _ h2₀ fun c hc o e => hs₂.extBut _ _ (nmem_ne X.n12 hc).symm e
    refine wpAny_pure ?_
    refine wpAny_bind (wpAny_bind (wpAny_holding ?_))
    show wpAny _ _ (Builtin.SmallTypes.nextOf (.ref i2) >>= _) _ _ _
    refine wpAny_bind (D2.item i _ _ _ hi h2₂ fun y h₄ tk₄ hy h2₄ hs₄ => wpAny_pure ?_)
    have h1₄ : St1 (i + 1) h₄ := D1.frame _ _ _ h1₂ fun c hc o e => hs₄.extBut _ _ (nmem_ne X.n21 hc).symm e
    refine wpAny_pure (wpAny_pure ?_)
    show wpAny _ _ (newTuple [x, y] >>= _) _ _ _
    refine wpAny_bind (wpAny_newTuple ?_)
    have hsz : h₄.objs.size = s.heap.objs.size := by rw [hs₄.1, hs₂.1, sz0]
    have hnew : s.heap.get? h₄.objs.size = none := by
      cases e : s.heap.get? h₄.objs.size with
      | none => rfl
      | some o => exact absurd (Heap.lt_size e) (by rw [hsz]; exact Nat.lt_irrefl _)
    have up : ∀ c o, h₄.get? c = some o → (h₄.push { cls := .type "tuple", data := .seq #[x, y] }).get? c = some o := fun c o e => Heap.get?_push_of_some _ e
    have hz₄ : h₄.get? z = some (zrec g0 g1 TI TO) := hs₄.extBut _ _ zi2 (hs₂.extBut _ _ zi1 hgz)
    have hTO₄ : IsPair h₄ TO a0 b0 := hs₄.extBut _ _ TOi2 (hs₂.extBut _ _ TOi1 hTO₀)
    obtain ⟨o1, ho1⟩ := D1.live _ _ h1₄
    obtain ⟨o2, ho2⟩ := D2.live _ _ h2₄
    refine wpAny_pure ⟨_, rfl, ?_⟩
    exact hQ x y h₄.objs.size _ _ hx hy ⟨_, _, hgf, up _ _ hz₄⟩ ⟨_, _, up _ _ hTO₄⟩ (D1.frame _ _ _ h1₄ fun c hc o e => up c o e) (D2.frame _ _ _ h2₄ fun c hc o e => up c o e)
      (Heap.get?_push_size _ rfl) (Nat.ne_of_gt (Heap.lt_size hz₄)) (Nat.ne_of_gt (Heap.lt_size hTO₄)) (Nat.ne_of_gt (Heap.lt_size ho1)) (Nat.ne_of_gt (Heap.lt_size ho2)) hnew
      fun c o c1 c2 c3 c4 e => up _ _ (hs₄.extBut _ _ c4 (hs₂.extBut _ _ c3 (k0 c1 _ e)))

theorem zip_end (D1 : Draws prog w A i1 fp1 n P1 St1) (D2 : Draws prog w A i2 fp2 n P2 St2) (X : ZApart z TI TO i1 i2 fp1 fp2) {Q : Fin → Shared → Prop}
    (hz : ZipG s.heap z TI TO) (hTI : IsPair s.heap TI (.ref i1) (.ref i2)) (h1 : St1 n s.heap)
    (hE : ∀ h' e, (∀ c o, c ≠ z → c ≠ TO → c ≠ i1 → c ≠ i2 → s.heap.get? c = some o → h'.get? c = some o) → (∃ o, h'.get? e = some o ∧ o.cls = .type "StopIteration") → E (.ref e) { s with heap := h' }) :
    wpAny (model prog w) A (Builtin.«zip.__next__» ⟨[.ref z], []⟩) Q E s := by
  let _ := D2
  obtain ⟨f0, f1, hf, hg⟩ := id hz
  have zi1 : z ≠ i1 := nmem_ne X.z1 X.m1
  have TIi1 : TI ≠ i1 := nmem_ne X.TI1 X.m1
  show wpAny _ _ (field (.ref z) 2 >>= _) _ _ _
  refine wpAny_bind (wpAny_field hg rfl (x := .bool false) rfl ?_)
  show wpAny _ _ (field (.ref z) 3 >>= _) _ _ _
  refine wpAny_bind (wpAny_field hg rfl (x := .ref TI) rfl ?_)
  refine wpAny_bind (wpAny_seqItems hTI rfl ?_)
  show wpAny _ _ (Builtin.SmallTypes.ownedTupleIsFree (.ref z) >>= _) _ _ _
  refine wpAny_bind (zip_free hz fun b h₀ hz₀ hs₀ => ?_)
  have k0 : ∀ {c}, c ≠ z → ∀ o, s.heap.get? c = some o → h₀.get? c = some o := fun hc o e => hs₀.extBut _ _ hc e
  have h1₀ : St1 n h₀ := D1.frame _ _ _ h1 fun c hc o e => k0 (nmem_ne X.z1 hc).symm o e
  obtain ⟨g0, g1, hgf, hgz⟩ := id hz₀
  cases b with
  | true =>
    simp only [if_true]
    refine wpAny_bind (wpAny_rule ?_)
    refine wpAny_bind (wpAny_field hgz rfl (x := .ref TO) rfl ?_)
    refine wpAny_bind (wpAny_setField_rec hgz (by simp) fun h₁ hz₁ hs₁ => ?_)
    replace hz₁ : h₁.get? z = some (zrec .ellipsis g1 TI TO) := hz₁
    refine wpAny_bind ?_
    simp only [List.zipIdx_cons, List.zipIdx_nil, List.forIn_cons, List.forIn_nil]
    refine wpAny_bind (wpAny_bind (wpAny_onRaise ?_))
    show wpAny _ _ (Builtin.SmallTypes.nextOf (.ref i1) >>= _) _ _ _
    have h1₁ : St1 n h₁ := D1.frame _ _ _ h1₀ fun c hc o e => hs₁.extBut _ _ (nmem_ne X.z1 hc).symm e
    refine wpAny_bind (D1.done _ _ _ h1₁ fun h₂ e hs₂ he => ?_)
    obtain ⟨oe, hoe, hce⟩ := he
    have hz₂ : h₂.get? z = some (zrec .ellipsis g1 TI TO) := hs₂ _ _ zi1 hz₁
    have hez : e ≠ z := fun x => by subst x; rw [hz₂] at hoe; cases hoe; simp at hce
    refine wpAny_setField_rec hz₂ (by simp) fun h₃ _ hs₃ => hE h₃ e (fun c o c1 _ c3 _ x => hs₃.extBut _ _ c1 (hs₂ _ _ c3 (hs₁.extBut _ _ c1 (k0 c1 _ x)))) ⟨oe, hs₃.extBut _ _ hez hoe, hce⟩
  | false =>
    simp only [Bool.false_eq_true, if_false]
    refine wpAny_bind ?_
    rw [← Array.forIn_toList]
    simp only [List.forIn_cons, List.forIn_nil]
    refine wpAny_bind (wpAny_bind (wpAny_holding ?_))
    show wpAny _ _ (Builtin.SmallTypes.nextOf (.ref i1) >>= _) _ _ _
    refine wpAny_bind (D1.done _ _ _ h1₀ fun h₂ e hs₂ he => ?_)
    exact hE h₂ e (fun c o c1 _ c3 _ x => hs₂ _ _ c3 (k0 c1 _ x)) he

/-- a zip over two iterators of one length, as a loop's or a block's turns -/
theorem zip_turns {target : PySem.Expr} (D1 : Draws prog w A.in1 i1 fp1 n P1 St1) (D2 : Draws prog w A.in1 i2 fp2 n P2 St2) (X : ZApart z TI TO i1 i2 fp1 fp2) :
    KTurns prog w A target z (z :: TI :: TO :: (fp1 ++ fp2)) [z, TO, i1, i2] n (fun i v h => ∃ T x y, v = .ref T ∧ P1 i x ∧ P2 i y ∧ h.IsTuple T #[x, y])
      (fun i v h => ∃ T x y, v = .ref T ∧ P1 i x ∧ P2 i y ∧ IsPair h T x y ∧ T ≠ z ∧ ZipG h z TI TO ∧ IsPair h TI (.ref i1) (.ref i2) ∧ (∃ a b, IsPair h TO a b) ∧ St1 (i + 1) h ∧ St2 (i + 1) h)
      (fun i h => ZipG h z TI TO ∧ IsPair h TI (.ref i1) (.ref i2) ∧ (∃ a b, IsPair h TO a b) ∧ St1 i h ∧ St2 i h) where
  sub := fun c hc => by
    simp at hc
    rcases hc with rfl | rfl | rfl | rfl
    · simp
    · simp
    · simp [X.m1]
    · simp [X.m2]
  frame := fun i h h' hst hk => by
    obtain ⟨⟨f0, f1, hf, hg⟩, hTI, ⟨a, b, hTO⟩, h1, h2⟩ := hst
    exact ⟨⟨f0, f1, hf, hk z (by simp) _ hg⟩, hk TI (by simp) _ hTI, ⟨a, b, hk TO (by simp) _ hTO⟩, D1.frame _ _ _ h1 fun c hc o e => hk c (by simp [hc]) o e, D2.frame _ _ _ h2 fun c hc o e => hk c (by simp [hc]) o e⟩
  item := fun i s Q E hi hst hQ => by
    obtain ⟨hz, hTI, hTO, h1, h2⟩ := hst
    have hT : s.TypeIs (.ref z) "zip" := by obtain ⟨f0, f1, hf, hg⟩ := hz; exact ⟨_, hg, rfl⟩
    unfold pyNext
    refine wpAny_bind (wpAny_attempt (wpAny_callSpecial?_slot (name := Str.ofString "__next__") hT F.slot_zip_next
      (wpAny_call_entry F.slot_zip_next hT F.entry_zip_next
        (zip_next D1 D2 X hz hTI hTO h1 h2 hi fun x y T h' tk p1 p2 a1 a2 a3 a4 a5 a6 a7 a8 a9 a10 hk => wpAny_pure ?_) (F.args_zip_next_1 _))))
    refine hQ (.ref T) h' tk ⟨T, x, y, rfl, p1, p2, a5, a6, a1, hk _ _ X.zTI.symm X.TITO (nmem_ne X.TI1 X.m1) (nmem_ne X.TI2 X.m2) hTI, a2, a3, a4⟩ fun c o hc e => ?_
    exact hk c o (fun x => hc (by simp [x])) (fun x => hc (by simp [x])) (fun x => hc (by simp [x])) (fun x => hc (by simp [x])) e
  go := fun i v s Q E hm hQ => by
    obtain ⟨T, x, y, rfl, p1, p2, hT, hTz, hz, hTI, hTO, h1, h2⟩ := hm
    obtain ⟨f0, f1, hf, hg⟩ := id hz
    have triv : Q () s := hQ s.heap ⟨T, x, y, rfl, p1, p2, _, hT, rfl, _, rfl⟩ ⟨hz, hTI, hTO, h1, h2⟩ fun _ _ _ e => e
    have work : ∀ t : Bool, wpAny (model prog w) A (load z >>= fun o => (match o.cls, o.data with
        | .type n, .fields vs => if ["enumerate", "zip", "dict_itemiterator", "dict_reverseitemiterator", "odict_iterator", "itertools.zip_longest", "itertools.pairwise"].contains n && vs[0]? == some (rawInt T) then do
            rule "for.unpacks-the-owned-tuple"
            updateField z 0 .none
          else pure ()
        | _, _ => pure () : Sem Unit)) Q E s := by
      intro _
      refine wpAny_bind (wpAny_load hg ?_)
      dsimp only
      split
      · refine wpAny_bind (wpAny_rule ?_)
        show wpAny _ _ (setField (.ref z) 0 .none) Q E s
        refine wpAny_setField_rec hg (by simp) fun h' hz' hs' => ?_
        have k : ∀ {c}, c ≠ z → ∀ o, s.heap.get? c = some o → h'.get? c = some o := fun hc o e => hs'.extBut _ _ hc e
        obtain ⟨a, b, hTO⟩ := hTO
        exact hQ h' ⟨T, x, y, rfl, p1, p2, _, k hTz _ hT, rfl, _, rfl⟩ ⟨⟨_, _, .inl rfl, hz'⟩, k X.zTI.symm _ hTI, ⟨a, b, k X.zTO.symm _ hTO⟩, D1.frame _ _ _ h1 fun c hc o e => k (nmem_ne X.z1 hc).symm o e, D2.frame _ _ _ h2 fun c hc o e => k (nmem_ne X.z2 hc).symm o e⟩
          fun c o hc e => k (fun q => hc (by simp [q])) o e
      · exact wpAny_pure triv
    unfold letOwnedTupleGo
    split
    · exact work true
    · exact work true
    · exact wpAny_pure triv
  done := fun s Q E hst hQ => by
    obtain ⟨hz, hTI, hTO, h1, h2⟩ := hst
    have hT : s.TypeIs (.ref z) "zip" := by obtain ⟨f0, f1, hf, hg⟩ := hz; exact ⟨_, hg, rfl⟩
    unfold pyNext
    refine wpAny_bind (wpAny_attempt (wpAny_callSpecial?_slot (name := Str.ofString "__next__") hT F.slot_zip_next
      (wpAny_call_entry F.slot_zip_next hT F.entry_zip_next (zip_end D1 D2 X hz hTI h1 fun h' e hk he => ?_) (F.args_zip_next_1 _))))
    obtain ⟨o, ho, hc⟩ := he
    refine wpAny_bind (wpAny_isInstance (T := "StopIteration") (b := true) ⟨o, ho, hc⟩ isSubtype_stop ?_)
    refine wpAny_pure (hQ _ s.toks fun c o hc e => hk c o (fun x => hc (by simp [x])) (fun x => hc (by simp [x])) (fun x => hc (by simp [x])) (fun x => hc (by simp [x])) e)
end
end
end Mine
end
section -- Comp2
set_option maxRecDepth 100000
open PySem PySem.W PySem.Calls PyProof.Rows PyProof.V PySem.Spec PyProof.Rows.LCg
namespace Mine
section
variable {prog : Program} {w : World} {A : Around} {E : Value → Shared → Prop} {s : Shared}

/-- a block over pairs whose element makes no object -/
theorem CompAt.pair {env : Env} {elt : PySem.Expr} {a b : Str} {pa pb tp : Pos} {kk : Nat} {scope : Scope} {cl : List (Str × Addr)} {Q : Value → Shared → Prop} {I : Addr} {fp wr : List Addr} {n : Nat} {P Md : Nat → Value → Heap → Prop} {St : Nat → Heap → Prop}
    {P1 P2 : Nat → Value → Prop} (W : KTurns prog w A (.Tuple [.Name a pa, .Name b pb] kk tp) I fp wr n P Md St) (hsz : n ≤ sizeLine) (hfp : ∀ c ∈ fp, c < s.heap.objs.size) (hst : St 0 s.heap) (hh : A.handled = none)
    (hxa : scope.names.lookup a = some .local) (hxb : scope.names.lookup b = some .local) (hab : ¬ a = b) (hkind : scope.kind = .function)
    (self : ∀ (s₃ : Shared) (Q' : Value → Shared → Prop) (E' : Value → Shared → Prop), St 0 s₃.heap → Q' (.ref I) s₃ → wpAny (model prog w) A (pyIter (.ref I)) Q' E' s₃)
    (hP : ∀ i v h, P i v h → ∃ T x y, v = .ref T ∧ P1 i x ∧ P2 i y ∧ h.IsTuple T #[x, y]) (Y : Nat → Value → Prop)
    (turn : ∀ i x y h tk m₂ (E' : Value → Shared → Prop), i < n → P1 i x → P2 i y → h.Ns (s.heap.objs.size + 1) m₂ → m₂ a = some x → m₂ b = some y → Ext ((s.heap.objs.size + 1) :: s.heap.objs.size :: wr) s.heap h →
      wpAny (model prog w) A (eval elt (compEnvC scope cl (s.heap.objs.size + 1) env)) (fun r s₄ => (∃ tk', s₄ = { s with heap := h, toks := tk' }) ∧ Y i r) E' { s with heap := h, toks := tk })
    (done : ∀ ys h tk, ys.length = n → (∀ (j : Nat) y, ys[j]? = some y → Y j y) → h.get? s.heap.objs.size = some (lst ys) → Ext ((s.heap.objs.size + 1) :: s.heap.objs.size :: wr) s.heap h → Q (.ref s.heap.objs.size) { s with heap := h, toks := tk }) :
    CompAt prog w A env elt (.Tuple [.Name a pa, .Name b pb] kk tp) scope cl Q (.ref I) s := by
  refine ⟨I, fp, wr, n, P, Md, St, fun i y _ => Y i y, rfl, W, hsz, hfp, hst, hh, self, fun _ _ _ _ y _ => y, ?_, fun ys h tk hl hy hD hx => done ys h tk hl hy hD hx⟩
  intro i v h tk m₂ E' hi hPv hm hx
  obtain ⟨T, x, y, rfl, p1, p2, hT⟩ := hP i v h hPv
  refine kcp_assign (env := compEnvC scope cl (s.heap.objs.size + 1) env) hh hT (lookup_relabel_local hxa) (lookup_relabel_local hxb) (by simp [compEnvC, relabel, hkind]) hm fun h₄ tk₄ hn₄ hs₄ => ?_
  have ue : Ext ((s.heap.objs.size + 1) :: s.heap.objs.size :: wr) h h₄ := fun c o hc e => hs₄ c o (fun q => hc (q ▸ List.mem_cons_self ..)) e
  refine wpAny_mono (turn i x y h₄ tk₄ _ E' hi p1 p2 hn₄ (by simp [hab]) (by simp) (hx.trans ue)) (fun r s₄ h₅ => ?_) fun _ _ e => e
  obtain ⟨⟨tk', rfl⟩, hY⟩ := h₅
  exact ⟨h₄, tk', rfl, fun c o hc e => hs₄ c o (fun q => hc (q ▸ List.mem_cons_self ..)) e, ⟨_, hn₄⟩, hY⟩

/-- enumerate of a list, in a block whose element makes no object -/
theorem enum_at {env : Env} {elt : PySem.Expr} {a b : Str} {pa pb tp : Pos} {kk : Nat} {scope : Scope} {cl : List (Str × Addr)} {Q : Value → Shared → Prop} {l : Addr} {items : Array Value}
    (hl : s.heap.IsList l items) (hsz : items.size ≤ sizeLine) (hh : A.handled = none)
    (hxa : scope.names.lookup a = some .local) (hxb : scope.names.lookup b = some .local) (hab : ¬ a = b) (hkind : scope.kind = .function) (Y : Nat → Value → Prop)
    (turn : ∀ (i : Nat) x t C h tk m₂ (E' : Value → Shared → Prop), items[i]? = some x → h.Ns C m₂ → m₂ a = some (.int i t) → m₂ b = some x → (∀ c o, s.heap.get? c = some o → h.get? c = some o) →
      wpAny (model prog w) A (eval elt (compEnvC scope cl C env)) (fun r s₄ => (∃ tk', s₄ = { s with heap := h, toks := tk' }) ∧ Y i r) E' { s with heap := h, toks := tk })
    (done : ∀ ys D h tk, ys.length = items.size → (∀ (j : Nat) y, ys[j]? = some y → Y j y) → h.get? D = some (lst ys) → s.heap.objs.size ≤ D → (∀ c o, s.heap.get? c = some o → h.get? c = some o) → Q (.ref D) { s with heap := h, toks := tk }) :
    wpAny (model prog w) A (call (.type "enumerate") [.ref l]) (fun xv s₁ => wpAny (model prog w) A (pyIter xv) (CompAt prog w A env elt (.Tuple [.Name a pa, .Name b pb] kk tp) scope cl Q) E s₁) E s := by
  have hlt : l < s.heap.objs.size := by obtain ⟨o, e, _⟩ := hl; exact Heap.lt_size e
  refine call_enumerate_list hl fun h' hE hI hsz' hk => ?_
  refine wpAny_pyIter_enum hE ?_
  have hs1 : ∀ c, c < s.heap.objs.size → c ∉ [s.heap.objs.size + 1, s.heap.objs.size] := fun c hc hm => by
    rcases List.mem_cons.mp hm with e | hm
    · exact absurd hc (e ▸ Nat.not_lt.mpr (Nat.le_succ _))
    · exact absurd hc ((List.mem_singleton.mp hm) ▸ Nat.lt_irrefl _)
  have up : ∀ (h : Heap), Ext ((h'.objs.size + 1) :: h'.objs.size :: [s.heap.objs.size + 1, s.heap.objs.size]) h' h → ∀ c o, s.heap.get? c = some o → h.get? c = some o := fun h hx c o e => by
    have hc := Heap.lt_size e
    refine hx c o (fun hm => ?_) (hk c o e)
    have hlt' : c < h'.objs.size := by rw [hsz']; exact Nat.lt_trans hc (Nat.lt_succ_of_lt (Nat.lt_succ_self _))
    rcases List.mem_cons.mp hm with q | hm
    · exact absurd hlt' (q ▸ Nat.not_lt.mpr (Nat.le_succ _))
    · rcases List.mem_cons.mp hm with q | hm
      · exact absurd hlt' (q ▸ Nat.lt_irrefl _)
      · exact hs1 c hc hm
  refine CompAt.pair (s := { s with heap := h' }) (P1 := fun i x => ∃ t, x = .int (i : Nat) t) (P2 := fun i y => items[i]? = some y)
    (KTurns.ofWalksU (WalksT.enumerate hh (s.heap.objs.size + 1) s.heap.objs.size l (Nat.succ_ne_self _) (ktu_ne 1 hlt) (Nat.ne_of_lt hlt) items).toU) hsz ?_ ⟨⟨_, hE⟩, hI, hl.at fun o e => hk _ o e⟩ hh hxa hxb hab hkind ?_ ?_ Y ?_ ?_
  · intro c hc
    rw [hsz']
    have hc' : c = s.heap.objs.size + 1 ∨ c = s.heap.objs.size ∨ c = l := by simpa using hc
    rcases hc' with rfl | rfl | rfl
    · exact Nat.lt_succ_self _
    · exact Nat.lt_succ_of_lt (Nat.lt_succ_self _)
    · exact Nat.lt_trans hlt (Nat.lt_succ_of_lt (Nat.lt_succ_self _))
  · rintro s₃ Q' E' ⟨⟨old, he⟩, _⟩ hq
    exact wpAny_pyIter_enum he hq
  · rintro i v h ⟨T, vals, rfl, ⟨t, x, hx, rfl⟩, hT⟩
    exact ⟨T, _, _, rfl, ⟨t, rfl⟩, hx, hT⟩
  · rintro i x y h tk m₂ E' hi ⟨t, rfl⟩ hy hm ha hb hx
    exact turn i y t _ h tk m₂ E' hy hm ha hb (up h hx)
  · intro ys h tk hlen hy hD hx
    exact done ys _ h tk hlen hy hD (by rw [hsz']; exact Nat.le_add_right _ 2) (up h hx)

theorem zip_self {z TI TO : Addr} {Q : Value → Shared → Prop} (hz : ZipG s.heap z TI TO) (h : Q (.ref z) s) : wpAny (model prog w) A (pyIter (.ref z)) Q E s := by
  obtain ⟨f0, f1, hf, hg⟩ := hz
  have hT : s.TypeIs (.ref z) "zip" := ⟨_, hg, rfl⟩
  refine wpAny_pyIter_slot hT F.slot_zip_iter (wpAny_call_entry F.slot_zip_iter hT F.entry_zip_iter ?_ (F.args_zip_iter_1 _))
  show wpAny _ _ (ret (.ref z)) _ _ s
  exact wpAny_pure ⟨_, rfl, "zip", _, hT, F.slot_zip_next.lookup, h⟩

abbrev zH1 (h : Heap) (l1 : Addr) : Heap := h.push { cls := .type "list_iterator", data := .fields #[.ref l1, .int 0 0] }
abbrev zH2 (h : Heap) (l1 l2 : Addr) : Heap := (zH1 h l1).push { cls := .type "tuple_iterator", data := .fields #[.ref l2, .int 0 0] }
abbrev zH3 (h : Heap) (l1 l2 : Addr) : Heap := (zH2 h l1 l2).push { cls := .type "tuple", data := .seq #[.ref h.objs.size, .ref (zH1 h l1).objs.size] }
abbrev zH4 (h : Heap) (l1 l2 : Addr) : Heap := (zH3 h l1 l2).push { cls := .type "tuple", data := .seq #[.none, .none] }
abbrev zH5 (h : Heap) (l1 l2 : Addr) : Heap := (zH4 h l1 l2).push { cls := .type "zip", data := .fields #[.none, .bool false, .bool false, .ref (zH2 h l1 l2).objs.size, .ref (zH3 h l1 l2).objs.size] }

theorem meets_zip_lt (l1 l2 : Addr) (xs ys : Array Value) :
    Meets (Builtin.«zip.__new__» ⟨[.type "zip", .ref l1, .ref l2], []⟩) (fun _ R s => s.heap.IsList l1 xs ∧ s.heap.IsTuple l2 ys ∧
      R (.ok (.ret (.ref (zH4 s.heap l1 l2).objs.size))) { s with heap := zH5 s.heap l1 l2 }) :=
  .of_wp fun prog w A R s h => by
    obtain ⟨hp, g, d, tk, os⟩ := s; obtain ⟨hl1, hl2, h⟩ := h
    have hsub := sub_zip
    have hL1 : Heap.IsList (Shared.heap ⟨hp, g, d, tk, os⟩) l1 xs := hl1
    have hL2 : Heap.IsTuple (Shared.heap ⟨hp.push { cls := .type "list_iterator", data := .fields #[.ref l1, .int 0 0] }, g, d, tk, os⟩) l2 ys := Heap.IsTuple.push hl2 _
    wp_walk using wpAny_pyIter_list hL1, wpAny_pyIter_tuple hL2
    exact ⟨_, rfl, h⟩
theorem call_zip_lt {l1 l2 : Addr} {xs ys : Array Value} {Q : Value → Shared → Prop} (hl1 : s.heap.IsList l1 xs) (hl2 : s.heap.IsTuple l2 ys)
    (h : ∀ h', IsZip h' (s.heap.objs.size + 4) (s.heap.objs.size + 2) (s.heap.objs.size + 3) .none → IsPair h' (s.heap.objs.size + 2) (.ref s.heap.objs.size) (.ref (s.heap.objs.size + 1)) →
      IsPair h' (s.heap.objs.size + 3) .none .none → h'.IsListIter s.heap.objs.size l1 0 → h'.IsTupleIter (s.heap.objs.size + 1) l2 0 → h'.objs.size = s.heap.objs.size + 5 →
      (∀ c o, s.heap.get? c = some o → h'.get? c = some o) → Q (.ref (s.heap.objs.size + 4)) { s with heap := h' }) :
    wpAny (model prog w) A (call (.type "zip") [.ref l1, .ref l2]) Q E s := by
  refine callType_new F.called_zip (by decide) (F.typeCall_zip_2 _ _) (F.newCall_zip_2 _ _) (fun obj => F.args_object_init_3 obj _ _) F.entry_zip_new
    (meets_zip_lt l1 l2 xs ys) ⟨hl1, hl2, ?_⟩
  have z1 : (zH1 s.heap l1).objs.size = s.heap.objs.size + 1 := Heap.size_push ..
  have z2 : (zH2 s.heap l1 l2).objs.size = s.heap.objs.size + 2 := by rw [Heap.size_push, z1]
  have z3 : (zH3 s.heap l1 l2).objs.size = s.heap.objs.size + 3 := by rw [Heap.size_push, z2]
  have z4 : (zH4 s.heap l1 l2).objs.size = s.heap.objs.size + 4 := by rw [Heap.size_push, z3]
  have z5 : (zH5 s.heap l1 l2).objs.size = s.heap.objs.size + 5 := by rw [Heap.size_push, z4]
  have g5 : (zH5 s.heap l1 l2).get? (zH4 s.heap l1 l2).objs.size = some _ := Heap.get?_push_size _ rfl
  have g4 : (zH5 s.heap l1 l2).get? (zH3 s.heap l1 l2).objs.size = some _ := Heap.get?_push_of_some _ (Heap.get?_push_size _ rfl)
  have g3 : (zH5 s.heap l1 l2).get? (zH2 s.heap l1 l2).objs.size = some _ := Heap.get?_push_of_some _ (Heap.get?_push_of_some _ (Heap.get?_push_size _ rfl))
  have g2 : (zH5 s.heap l1 l2).get? (zH1 s.heap l1).objs.size = some _ := Heap.get?_push_of_some _ (Heap.get?_push_of_some _ (Heap.get?_push_of_some _ (Heap.get?_push_size _ rfl)))
  have g1 : (zH5 s.heap l1 l2).get? s.heap.objs.size = some _ := Heap.get?_push_of_some _ (Heap.get?_push_of_some _ (Heap.get?_push_of_some _ (Heap.get?_push_of_some _ (Heap.get?_push_size _ rfl))))
  show _ ∧ _
  rw [z2, z3, z4] at g5
  rw [z1, z2] at g3
  rw [z3] at g4
  rw [z1] at g2
  rw [z4]
  exact ⟨⟨_, g5, rfl⟩, h _ g5 g3 g4 ⟨_, g1, rfl, rfl⟩ ⟨_, g2, rfl, rfl⟩ z5 fun c o x =>
    Heap.get?_push_of_some _ (Heap.get?_push_of_some _ (Heap.get?_push_of_some _ (Heap.get?_push_of_some _ (Heap.get?_push_of_some _ x))))⟩
end
end Mine
end
section -- Enter
open PySem PySem.W PySem.Calls PyProof.Rows
namespace Mine
section
variable {prog : Program} {w : World} {A A₀ : Around} {s : Shared} {K : Frag} {L : Addr} {h₀ base : Heap} {m mg mb : Str → Option Value} {p : Program} {loose : List Str} {mean : ExcName → Option Value}

/-- a def without cells is entered: all that stands is the new frame's ground -/
theorem enter_plain {env : Env} {outer : List Env} {R : Result → Shared → Prop} {name qual : Str} {params : Arguments} {body : List Stmt} {scope : Scope} {dV kV doc pm cdv ct oc : Value} {an od : Option Addr} {osl : Array (Option Value)} {f : Addr} {args : Args} {binds : List (Str × Value)}
    (B : Below A₀ base outer h₀) (F : Fr h₀ L s.heap m) (X₀ : K.In h₀) (T : Top p loose mean mg mb h₀) (hA : A.frames = some (env :: outer)) (hf : env.frame = some L) (hke : env.scope.kind = .function)
    (ho : K.lookup f = some ⟨oc, od, .func (fnOf name qual params body scope dV kV doc pm an cdv ct), osl⟩) (hcd : codeIn K cdv qual = true) (hroom : A.depth < recursionLimit)
    (hbind : BindsTo s (fnOf name qual params body scope dV kV doc pm an cdv ct) args binds) (hloc : ∀ y ∈ binds, scope.names.lookup y.1 = some .local)
    (h : ∀ L' h₁, Fr h₀ L s.heap m → Fr s.heap L' h₁ (fun y => binds.reverse.lookup y) → News s.heap L' h₁ [] → Below A base (env :: outer) s.heap → K.In s.heap → Top p loose mean mg mb s.heap →
      wpAny (model prog w) (A.deeper (envOf qual scope L' f cdv)) (execs body (envOf qual scope L' f cdv))
        (fun fl s' => LeaveK h₀ L m s.heap R (match fl with | .ret v => v | _ => .none) s')
        (fun e s' => wpAny (model prog w) (A.deeper (envOf qual scope L' f cdv)) (leaving (envOf qual scope L' f cdv) e) (fun _ s'' => R (.error e) s'') (fun e' s'' => R (.error e') s'') s')
        { s with heap := h₁, toks := s.toks + binds.length })
    (hco : scope.isCoroutine = false) (hgen : scope.isGenerator = false) (hk : scope.kind = .function)
    (hcell : ∀ x ∈ scope.names, x.2 ≠ .cell) : codeAny (model prog w) A (.call (.ref f) args) R s := by
  obtain ⟨FG, BG, st, lv⟩ := groundX (R := R) B F News.nil hA hf hke
  refine codeAny_call_def (fd := fnX name qual params body scope [] dV kV doc pm an cdv ct) (body := body) (binds := binds) hroom ((X₀.keeps F.keep) _ _ ho) rfl (T.nolimit.keeps F.keep) (codeRec_of (X₀.keeps F.keep) hcd) rfl hbind hcell hloc (fun h₁ hns hk₁ => ?_) hco hgen hk
  exact wpAny_mono (h s.heap.objs.size h₁ F ⟨hns, hk₁, Nat.le_refl _⟩ News.nil BG (X₀.keeps F.keep) (T.keeps F.keep)) (fun fl s' hl => lv _ _ hl) fun _ _ y => y

/-- the same of a def with cells -/
theorem enter_cells {env : Env} {outer : List Env} {R : Result → Shared → Prop} {name qual : Str} {params : Arguments} {body : List Stmt} {scope : Scope} {dV kV doc pm cdv ct oc : Value} {an od : Option Addr} {osl : Array (Option Value)} {f : Addr} {args : Args} {binds : List (Str × Value)}
    (B : Below A₀ base outer h₀) (F : Fr h₀ L s.heap m) (X₀ : K.In h₀) (T : Top p loose mean mg mb h₀) (hA : A.frames = some (env :: outer)) (hf : env.frame = some L) (hke : env.scope.kind = .function)
    (ho : K.lookup f = some ⟨oc, od, .func (fnOf name qual params body scope dV kV doc pm an cdv ct), osl⟩) (hcd : codeIn K cdv qual = true) (hroom : A.depth < recursionLimit)
    (hbind : BindsTo s (fnOf name qual params body scope dV kV doc pm an cdv ct) args binds) (hkind : (binds.all fun y => scope.names.lookup y.1 == some .local || scope.names.lookup y.1 == some .cell) = true)
    (hnd : ((cellsFrom 0 scope.names []).map (·.1)).Nodup)
    (h : ∀ L' h₁ tk cells, Fr h₀ L s.heap m → Fr s.heap L' h₁ (bindL (envOfC qual scope L' f cdv).kindOf binds fun _ => none) → News s.heap L' h₁ cells →
      CellsAre (bindC (envOfC qual scope L' f cdv).kindOf binds fun _ => none) (cellsFrom (L' + 1) scope.names []) cells → Below A base (env :: outer) s.heap → K.In s.heap → Top p loose mean mg mb s.heap →
      wpAny (model prog w) (A.deeper (envOfC qual scope L' f cdv)) (execs body (envOfC qual scope L' f cdv))
        (fun fl s' => LeaveK h₀ L m s.heap R (match fl with | .ret v => v | _ => .none) s')
        (fun e s' => wpAny (model prog w) (A.deeper (envOfC qual scope L' f cdv)) (leaving (envOfC qual scope L' f cdv) e) (fun _ s'' => R (.error e) s'') (fun e' s'' => R (.error e') s'') s')
        { s with heap := h₁, toks := tk })
    (hco : scope.isCoroutine = false) (hgen : scope.isGenerator = false) (hk : scope.kind = .function) : codeAny (model prog w) A (.call (.ref f) args) R s := by
  obtain ⟨FG, BG, st, lv⟩ := groundX (R := R) B F News.nil hA hf hke
  refine codeAny_call_function hroom ((X₀.keeps F.keep) _ _ ho) rfl hco hgen rfl (codeRec_of (X₀.keeps F.keep) hcd) (hbind _ _ _ _ ?_)
  refine wpAny_newFunctionEnv_cells hk (kindsX hkind _) fun env' he s' x => ?_
  subst he
  refine ⟨(T.nolimit.keeps F.keep).keeps x.toInCall.keep, codeAny_func ?_⟩
  obtain ⟨h₁, tk, rfl, _⟩ := x.done
  have hk₁ := x.toInCall.keep
  obtain ⟨cells, NC, Y⟩ := Cl.news (h₀ := s.heap) (Nat.le_refl _) fun n c hm => ⟨x.cell n c (lookup_of_mem_nodup (cellsFrom_names scope.names 0 (s.heap.objs.size + 1) [] [] rfl ▸ hnd) hm), x.above n c hm⟩
  exact wpAny_mono (h s.heap.objs.size h₁ tk cells F ⟨x.toInCall.ns, hk₁, Nat.le_refl _⟩ NC Y BG (X₀.keeps F.keep) (T.keeps F.keep)) (fun fl s' hl => lv _ _ hl) fun _ _ y => y
end

/-- what a call of the def at f does where P holds of the heap: all that stands stands on, and Post holds -/
def CtrK (w : World) (mean : ExcName → Option Value) (mg mb : Str → Option Value) (f : Addr) (vs : List Value) (dep : Nat) (Pre : Heap → Prop) (Post : Heap → Value → Heap → Prop) : Prop :=
  ∀ (dp un : Nat) (gd : Option (List Code)) (cn : Str) (cs : Scope) (a : Addr) (ccd : Value) (cl : List (Str × Addr)) (outer : List Env) (A₀ : Around) (base h₀ : Heap) (L : Addr) (m : Str → Option Value) (s : Shared) (Q E : Value → Shared → Prop),
    Below A₀ base outer h₀ → Fr h₀ L s.heap m → (KK w).In h₀ → TP w mean mg mb h₀ → cs.kind = .function →
    dp + dep < recursionLimit → un + 8 * dep < cLine → Pre s.heap →
    (∀ v h' tk', (∀ b o, s.heap.get? b = some o → h'.get? b = some o) → Post s.heap v h' → Q v { s with heap := h', toks := tk' }) →
      wpAny (model PR w) (ktrTop dp un gd cn cs L a ccd cl outer) (call (.ref f) vs) Q E s

end Mine
end
section -- CompC
set_option maxRecDepth 100000
open PySem PySem.W PySem.Calls PyProof.Rows PyProof.V PySem.Spec PyProof.Rows.LCg
namespace Mine
section
variable {prog : Program} {w : World} {A : Around} {E : Value → Shared → Prop} {s : Shared}

/-- a block over single values whose element makes no object -/
theorem CompAt.one {env : Env} {elt : PySem.Expr} {a : Str} {pa : Pos} {scope : Scope} {cl : List (Str × Addr)} {Q : Value → Shared → Prop} {I : Addr} {fp wr : List Addr} {n : Nat} {P Md : Nat → Value → Heap → Prop} {St : Nat → Heap → Prop}
    {P1 : Nat → Value → Prop} (W : KTurns prog w A (.Name a pa) I fp wr n P Md St) (hsz : n ≤ sizeLine) (hfp : ∀ c ∈ fp, c < s.heap.objs.size) (hst : St 0 s.heap) (hh : A.handled = none)
    (hxa : scope.names.lookup a = some .local) (hkind : scope.kind = .function)
    (self : ∀ (s₃ : Shared) (Q' : Value → Shared → Prop) (E' : Value → Shared → Prop), St 0 s₃.heap → Q' (.ref I) s₃ → wpAny (model prog w) A (pyIter (.ref I)) Q' E' s₃)
    (hP : ∀ i v h, P i v h → P1 i v) (Y : Nat → Value → Prop)
    (turn : ∀ i x h tk m₂ (E' : Value → Shared → Prop), i < n → P1 i x → h.Ns (s.heap.objs.size + 1) m₂ → m₂ a = some x → Ext ((s.heap.objs.size + 1) :: s.heap.objs.size :: wr) s.heap h →
      wpAny (model prog w) A (eval elt (compEnvC scope cl (s.heap.objs.size + 1) env)) (fun r s₄ => (∃ tk', s₄ = { s with heap := h, toks := tk' }) ∧ Y i r) E' { s with heap := h, toks := tk })
    (done : ∀ ys h tk, ys.length = n → (∀ (j : Nat) y, ys[j]? = some y → Y j y) → h.get? s.heap.objs.size = some (lst ys) → Ext ((s.heap.objs.size + 1) :: s.heap.objs.size :: wr) s.heap h → Q (.ref s.heap.objs.size) { s with heap := h, toks := tk }) :
    CompAt prog w A env elt (.Name a pa) scope cl Q (.ref I) s := by
  refine ⟨I, fp, wr, n, P, Md, St, fun i y _ => Y i y, rfl, W, hsz, hfp, hst, hh, self, fun _ _ _ _ y _ => y, ?_, fun ys h tk hl hy hD hx => done ys h tk hl hy hD hx⟩
  intro i v h tk m₂ E' hi hPv hm hx
  refine wpAny_assign_Name (wpAny_storeName_local (env := compEnvC scope cl (s.heap.objs.size + 1) env) (lookup_relabel_local hxa) hm (fun h₄ hn₄ hs₄ => ?_) (by simp [compEnvC, relabel, hkind]))
  have ue : Ext ((s.heap.objs.size + 1) :: s.heap.objs.size :: wr) h h₄ := Ext.of_same hs₄ (List.mem_cons_self ..)
  refine wpAny_mono (turn i v h₄ _ _ E' hi (hP i v h hPv) hn₄ (by simp) (hx.trans ue)) (fun r s₄ h₅ => ?_) fun _ _ e => e
  obtain ⟨⟨tk', rfl⟩, hY⟩ := h₅
  exact ⟨h₄, tk', rfl, Ext.of_same hs₄ (List.mem_cons_self ..), ⟨_, hn₄⟩, hY⟩

/-- range(n) in a block whose element makes no object -/
theorem range_at {env : Env} {elt : PySem.Expr} {a : Str} {pa : Pos} {scope : Scope} {cl : List (Str × Addr)} {Q : Value → Shared → Prop} {n : Nat} {t : Tok}
    (hsm : Builtin.Range.small 0 n 1 = true) (hrs : Builtin.Range.rangeSize 0 n 1 = (n : Int)) (hsz : n ≤ sizeLine) (hh : A.handled = none)
    (hxa : scope.names.lookup a = some .local) (hkind : scope.kind = .function) (Y : Nat → Value → Prop)
    (turn : ∀ (i : Nat) u C h tk m₂ (E' : Value → Shared → Prop), i < n → h.Ns C m₂ → m₂ a = some (.int i u) → (∀ c o, s.heap.get? c = some o → h.get? c = some o) →
      wpAny (model prog w) A (eval elt (compEnvC scope cl C env)) (fun r s₄ => (∃ tk', s₄ = { s with heap := h, toks := tk' }) ∧ Y i r) E' { s with heap := h, toks := tk })
    (done : ∀ ys D h tk, ys.length = n → (∀ (j : Nat) y, ys[j]? = some y → Y j y) → h.get? D = some (lst ys) → s.heap.objs.size ≤ D → (∀ c o, s.heap.get? c = some o → h.get? c = some o) → Q (.ref D) { s with heap := h, toks := tk }) :
    wpAny (model prog w) A (call (.type "range") [.int n t]) (fun xv s₁ => wpAny (model prog w) A (pyIter xv) (CompAt prog w A env elt (.Name a pa) scope cl Q) E s₁) E s := by
  refine call_range_1 ?_
  refine wpAny_pyIter_range (a := 0) (b := n) (c := 1) (t := s.toks) (u := t) (v := s.toks + 1) (Heap.get?_push_size _ rfl) hsm ?_
  have z1 : (s.heap.push { cls := .type "range", data := .fields #[Value.int 0 s.toks, Value.int n t, Value.int 1 (s.toks + 1)] }).objs.size = s.heap.objs.size + 1 := Heap.size_push ..
  rw [hrs]
  generalize hh2 : (s.heap.push { cls := .type "range", data := .fields #[Value.int 0 s.toks, Value.int n t, Value.int 1 (s.toks + 1)] }).push { cls := .type "range_iterator", data := .fields #[rawInt 0, rawInt n, rawInt 1] } = Hp
  have z2 : Hp.objs.size = s.heap.objs.size + 2 := by rw [← hh2, Heap.size_push, z1]
  have hk : ∀ c o, s.heap.get? c = some o → Hp.get? c = some o := fun c o e => by rw [← hh2]; exact Heap.get?_push_of_some _ (Heap.get?_push_of_some _ e)
  have hI : IsRangeIter Hp (s.heap.objs.size + 1) (0 + ((0 : Nat) : Int) * 1) ((n : Int) - ((0 : Nat) : Int)) 1 := by
    have := Heap.get?_push_size (s.heap.push { cls := .type "range", data := .fields #[Value.int 0 s.toks, Value.int n t, Value.int 1 (s.toks + 1)] }) (o := { cls := .type "range_iterator", data := .fields #[rawInt 0, rawInt n, rawInt 1] }) rfl
    rw [z1] at this
    rw [← hh2]
    simpa using this
  have up : ∀ (h : Heap), Ext ((Hp.objs.size + 1) :: Hp.objs.size :: [s.heap.objs.size + 1]) Hp h → ∀ c o, s.heap.get? c = some o → h.get? c = some o := fun h hx c o e => by
    have hc := Heap.lt_size e
    refine hx c o (fun hm => ?_) (hk c o e)
    rw [z2] at hm
    rcases List.mem_cons.mp hm with q | hm
    · exact absurd hc (q ▸ Nat.not_lt.mpr (Nat.le_add_right _ 3))
    · rcases List.mem_cons.mp hm with q | hm
      · exact absurd hc (q ▸ Nat.not_lt.mpr (Nat.le_add_right _ 2))
      · exact absurd hc ((List.mem_singleton.mp hm) ▸ Nat.not_lt.mpr (Nat.le_add_right _ 1))
  rw [z1]
  refine CompAt.one (s := { s with heap := Hp, toks := s.toks + 1 + 1 }) (P1 := fun i v => ∃ u, v = .int (i : Nat) u)
    (KTurns.ofWalks (LCg.range_walks hh 0 n) fun i v s Q E st q => by unfold letOwnedTupleGo; exact wpAny_pure q) hsz ?_ hI hh hxa hkind ?_ ?_ Y ?_ ?_
  · intro c hc
    rw [z2, List.mem_singleton.mp hc]
    exact Nat.lt_succ_self _
  · intro s₃ Q' E' st q
    exact (LCg.range_walks (prog := prog) (w := w) hh 0 n).self 0 s₃ Q' E' st q
  · rintro i v h ⟨u, rfl⟩
    exact ⟨u, by rw [Int.zero_add]⟩
  · rintro i x h tk m₂ E' hi ⟨u, rfl⟩ hm ha hx
    exact turn i u _ h tk m₂ E' hi hm ha (up h hx)
  · intro ys h tk hl hy hD hx
    exact done ys _ h tk hl hy hD (by rw [z2]; exact Nat.le_add_right _ 2) (up h hx)

/-- what a block's turns ask whose one name x is a cell of the block's own -/
inductive CompAtC (prog : Program) (w : World) (A : Around) (env : Env) (elt : PySem.Expr) (x : Str) (px : Pos) (scope : Scope) (cl : List (Str × Addr)) (Q : Value → Shared → Prop) (it : Value) (s₂ : Shared) : Prop
  | mk (I : Addr) (fp wr : List Addr) (n : Nat) (P Md : Nat → Value → Heap → Prop) (St : Nat → Heap → Prop) (Y : Nat → Value → Heap → Prop)
    (h0 : it = .ref I)
    (h1 : KTurns prog w A (.Name x px) I fp wr n P Md St)
    (h2 : n ≤ sizeLine)
    (h3 : (∀ b ∈ fp, b < s₂.heap.objs.size))
    (h4 : St 0 s₂.heap)
    (h5 : (∀ (s₃ : Shared) (Q' : Value → Shared → Prop) (E' : Value → Shared → Prop), St 0 s₃.heap → Q' (.ref I) s₃ → wpAny (model prog w) A (pyIter (.ref I)) Q' E' s₃))
    (h6 : (∀ i y (h h' : Heap), Y i y h → Ext ((s₂.heap.objs.size + 2) :: (s₂.heap.objs.size + 1) :: s₂.heap.objs.size :: wr) h h' → Y i y h'))
    (h7 : (∀ i v h tk (E' : Value → Shared → Prop), i < n → P i v h → h.IsCell (s₂.heap.objs.size + 2) (some v) → s₂.heap.objs.size + 2 < h.objs.size → Ext ((s₂.heap.objs.size + 2) :: (s₂.heap.objs.size + 1) :: s₂.heap.objs.size :: wr) s₂.heap h →
      wpAny (model prog w) A (eval elt (compEnvC scope ((x, s₂.heap.objs.size + 2) :: cl) (s₂.heap.objs.size + 1) env))
        (fun y s₄ => ∃ h' tk', s₄ = { s₂ with heap := h', toks := tk' } ∧ (∀ b o, h.get? b = some o → h'.get? b = some o) ∧ Y i y h') E' { s₂ with heap := h, toks := tk }))
    (h8 : (∀ i v (h h' : Heap), P i v h → Heap.SameBut (s₂.heap.objs.size + 2) h h' → P i v h'))
    (h9 : (∀ ys h tk, ys.length = n → (∀ (j : Nat) y, ys[j]? = some y → Y j y h) → h.get? s₂.heap.objs.size = some (lst ys) → Ext ((s₂.heap.objs.size + 2) :: (s₂.heap.objs.size + 1) :: s₂.heap.objs.size :: wr) s₂.heap h → Q (.ref s₂.heap.objs.size) { s₂ with heap := h, toks := tk })) : CompAtC prog w A env elt x px scope cl Q it s₂

theorem comp_evalC {elt iter : PySem.Expr} {x : Str} {px : Pos} {scope : Scope} {cl : List (Str × Addr)} {pos : Pos} {env : Env} {Q : Value → Shared → Prop}
    (hclos : closureFor scope env = pure cl) (hc1 : ∀ n acc, cellsFrom n scope.names acc = (x, n) :: acc) (hc2 : ∀ h, pushCells h scope.names = h.push { cls := .type "cell", data := .cell none }) (hkind : scope.kind = .function)
    (hnames : ∀ y ∈ scope.names, y.2 = .local → scope.names.lookup y.1 = some .local) (hxk : ∀ cl C, (compEnvC scope cl C env).kindOf x = some .cell)
    (h : wpAny (model prog w) A (eval iter env) (fun xv s₁ => wpAny (model prog w) A (pyIter xv) (CompAtC prog w A env elt x px scope cl Q) E s₁) E s)
    (hs : ∀ x, foldedSetIterable iter env x = pure x := by intro _; rfl) :
    wpAny (model prog w) A (eval (.ListComp elt [⟨.Name x px, iter, [], 0⟩] scope pos) env) Q E s := by
  rw [eval_ListComp]
  refine wpAny_comprehension_free (use := none) rfl hs hclos hkind hnames (wpAny_mono h (fun xv s₁ h₁ => wpAny_mono h₁ (fun it s₂ h₂ => ?_) fun _ _ e => e) fun _ _ e => e)
  obtain ⟨I, fp, wr, n, P, Md, St, Y, rfl, W, hsz, hfp, hst, self, hY, turn, hPs, done⟩ := h₂
  refine wpAny_newObj_type ?_
  simp only [newFunctionEnv, Option.isSome_some, if_true]
  refine wpAny_bind (wpAny_alloc ?_)
  refine wpAny_bind (wpAny_layCells _ (fun name kind cells => by cases hkc : kind == NameKind.cell <;> simp [hkc]) _ _ _ _ ?_)
  rw [hc1, hc2]
  simp only [List.forIn_nil]
  refine wpAny_bind (wpAny_pure (wpAny_pure ?_))
  dsimp only
  generalize hH2 : s₂.heap.push { cls := .type "list", dict := none, data := .seq ([] : List Value).toArray } = H2
  have hC : H2.objs.size = s₂.heap.objs.size + 1 := by rw [← hH2, Heap.size_push]
  generalize hH3 : H2.push { cls := .type "dict", data := .dict #[] } = H3
  have hC3 : H3.objs.size = s₂.heap.objs.size + 2 := by rw [← hH3, Heap.size_push, hC]
  generalize hH4 : H3.push { cls := .type "cell", data := .cell none } = h₁
  have hC4 : h₁.objs.size = s₂.heap.objs.size + 3 := by rw [← hH4, Heap.size_push, hC3]
  have up2 : ∀ b o, H2.get? b = some o → h₁.get? b = some o := fun b o e => by rw [← hH4, ← hH3]; exact Heap.get?_push_of_some _ (Heap.get?_push_of_some _ e)
  have old : ∀ b o, s₂.heap.get? b = some o → h₁.get? b = some o := fun b o e => up2 b o (by rw [← hH2]; exact Heap.get?_push_of_some _ e)
  have hacc : h₁.get? s₂.heap.objs.size = some (lst []) := up2 _ _ (by rw [← hH2]; exact Heap.get?_push_size _ rfl)
  have hns₁ : h₁.Ns (s₂.heap.objs.size + 1) (fun _ => none) := by
    have := (Heap.Ns.new H2 (.type "dict")).keeps (h' := h₁) fun b o e => by rw [← hH4]; exact Heap.get?_push_of_some _ (by rw [← hH3]; exact e)
    rwa [hC] at this
  have hcell₁ : h₁.IsCell (s₂.heap.objs.size + 2) none := by
    have : h₁.get? H3.objs.size = some { cls := .type "cell", data := .cell none } := by rw [← hH4]; exact Heap.get?_push_size _ rfl
    rw [hC3] at this
    exact ⟨_, this, rfl⟩
  have hst₁ : St 0 h₁ := W.frame _ _ _ hst fun b _ o e => old b o e
  rw [hC, hC3]
  have n01 : s₂.heap.objs.size ≠ s₂.heap.objs.size + 1 := Nat.ne_of_lt (Nat.lt_succ_self _)
  have n02 : s₂.heap.objs.size ≠ s₂.heap.objs.size + 2 := Nat.ne_of_lt (Nat.lt_succ_of_lt (Nat.lt_succ_self _))
  have n12 : s₂.heap.objs.size + 1 ≠ s₂.heap.objs.size + 2 := Nat.ne_of_lt (Nat.lt_succ_self _)
  have loop : ∀ s₃ : Shared, s₃ = { s₂ with heap := h₁ } →
      codeAny (model prog w) A (.compLoop (.ListComp elt [⟨.Name x px, iter, [], 0⟩] scope pos) 0 (.ref I) (.ref s₂.heap.objs.size) (compEnvC scope ((x, s₂.heap.objs.size + 2) :: cl) (s₂.heap.objs.size + 1) env))
        (compPost (model prog w) A E none Q (.ref s₂.heap.objs.size) (s₂.heap.objs.size + 1)) s₃ := by
    rintro s₃ rfl
    refine comp_loop (s := s₂) (tk₁ := s₂.toks) (X := [s₂.heap.objs.size + 2, s₂.heap.objs.size + 1]) (ex := (s₂.heap.objs.size + 2) :: (s₂.heap.objs.size + 1) :: s₂.heap.objs.size :: wr) (H := s₂.heap) W hsz ?_ ?_ ?_ ?_ ?_ ?_ (fun h => (∃ m, h.Ns (s₂.heap.objs.size + 1) m) ∧ ∃ v, h.IsCell (s₂.heap.objs.size + 2) v) ?_ Y hY ?_ ?_ hst₁ ⟨⟨_, hns₁⟩, _, hcell₁⟩ hacc (Ext.of_keeps old)
    · intro b hb hf
      have := hfp b hf
      rcases List.mem_cons.mp hb with q | hb
      · exact absurd this (q ▸ Nat.not_lt.mpr (Nat.le_add_right _ 2))
      · exact absurd this ((List.mem_singleton.mp hb) ▸ Nat.not_lt.mpr (Nat.le_succ _))
    · exact fun hf => absurd (hfp _ hf) (Nat.lt_irrefl _)
    · intro hm
      rcases List.mem_cons.mp hm with q | hm
      · exact n02 q
      · exact n01 (List.mem_singleton.mp hm)
    · intro b hb
      rcases List.mem_cons.mp hb with q | hb
      · exact q ▸ List.mem_cons_self ..
      · exact (List.mem_singleton.mp hb) ▸ List.mem_cons_of_mem _ (List.mem_cons_self ..)
    · exact List.mem_cons_of_mem _ (List.mem_cons_of_mem _ (List.mem_cons_self ..))
    · exact fun b hb => List.mem_cons_of_mem _ (List.mem_cons_of_mem _ (List.mem_cons_of_mem _ hb))
    · rintro h h' ⟨⟨m, hm⟩, v, hv⟩ hk
      refine ⟨⟨m, hm.at' fun o e => hk _ (by simp) o e⟩, v, ?_⟩
      obtain ⟨o, e, r⟩ := hv
      exact ⟨o, hk _ (by simp) o e, r⟩
    · rintro i v h tk E' hi hP ⟨⟨m, hm⟩, v₀, hv⟩ hx
      refine wpAny_assign_Name (wpAny_storeName_cell (env := compEnvC scope ((x, s₂.heap.objs.size + 2) :: cl) (s₂.heap.objs.size + 1) env) (c := s₂.heap.objs.size + 2) hkind (hxk _ _) (by simp [compEnvC]) hv fun h₄ hv₄ hs₄ => ?_)
      have ue : Ext ((s₂.heap.objs.size + 2) :: (s₂.heap.objs.size + 1) :: s₂.heap.objs.size :: wr) h h₄ := Ext.of_same hs₄ (List.mem_cons_self ..)
      refine wpAny_mono (turn i v h₄ _ E' hi (hPs _ _ _ _ hP hs₄) hv₄ hv₄.lt (hx.trans ue)) (fun r s₄ h₅ => ?_) fun _ _ e => e
      obtain ⟨h', tk', rfl, hk, hY'⟩ := h₅
      refine ⟨h', tk', rfl, (Ext.of_same hs₄ (List.mem_cons_self ..)).trans (Ext.of_keeps hk), ⟨⟨m, (hm.sameBut hs₄ n12).keeps hk⟩, _, hv₄.keeps hk⟩, hY'⟩
    · rintro ys h tk hl hys hD ⟨⟨m, hm⟩, _⟩ hx
      refine ⟨m, hm, fun h'' hs'' => ?_⟩
      have ue : Ext ((s₂.heap.objs.size + 2) :: (s₂.heap.objs.size + 1) :: s₂.heap.objs.size :: wr) h h'' := Ext.of_same hs'' (List.mem_cons_of_mem _ (List.mem_cons_self ..))
      exact done ys h'' tk hl (fun j y q => hY _ _ _ _ (hys j y q) ue) (hs''.extBut _ _ n01 hD) (hx.trans ue)
  exact codeAny_compStart_list (loop _ rfl) (self _ _ _ hst₁ (loop _ rfl))
end
end Mine
end
section -- Ident
set_option maxRecDepth 100000
open PySem PySem.W PySem.Calls PyProof.Rows PyProof.V PySem.Spec PyProof.Rows.LCg
namespace Mine
section
variable {prog : Program} {w : World} {A : Around} {E : Value → Shared → Prop} {s : Shared}

/-- the list v, which stands right below its block's frame, is stored under the frame's name y -/
def AssQ (env : Env) (y : Str) (Q : Flow → Shared → Prop) (v : Value) (s' : Shared) : Prop :=
  ∃ (D : Addr) (m : Str → Option Value), v = .ref D ∧ env.locals ≠ D + 1 ∧ s'.heap.Ns env.locals m ∧
    ∀ h'', h''.Ns env.locals (fun z => if z = y then some v else m z) → (∀ b o, b ≠ env.locals → b ≠ D + 1 → s'.heap.get? b = some o → h''.get? b = some o) → Q .next { s' with heap := h'', toks := s'.toks + 1 }

theorem assign_evalC {elt iter : PySem.Expr} {x y : Str} {px py : Pos} {scope : Scope} {cl : List (Str × Addr)} {pos spos : Pos} {env : Env} {Q : Flow → Shared → Prop}
    (hsw : swapsWith (.ListComp elt [⟨.Name x px, iter, [], 0⟩] scope pos) (some (.Name y py)) spos.line env = pure true)
    (hclos : closureFor scope env = pure cl) (hc1 : ∀ n acc, cellsFrom n scope.names acc = (x, n) :: acc) (hc2 : ∀ h, pushCells h scope.names = h.push { cls := .type "cell", data := .cell none }) (hkind : scope.kind = .function)
    (hnames : ∀ y ∈ scope.names, y.2 = .local → scope.names.lookup y.1 = some .local) (hxk : ∀ cl C, (compEnvC scope cl C env).kindOf x = some .cell)
    (hy : env.kindOf y = some .local) (hp : (env.scope.kind == .class || (env.scope.kind == .module && env.locals != env.globals)) = false)
    (h : wpAny (model prog w) A (eval iter env) (fun xv s₁ => wpAny (model prog w) A (pyIter xv) (CompAtC prog w A env elt x px scope cl (AssQ env y Q)) E s₁) E s)
    (hs : ∀ x, foldedSetIterable iter env x = pure x := by intro _; rfl) :
    wpAny (model prog w) A (exec (.Assign [.Name y py] (.ListComp elt [⟨.Name x px, iter, [], 0⟩] scope pos) spos) env) Q E s := by
  rw [exec_Assign_Name_used _ _ _ _ hsw]
  refine wpAny_bind (wpAny_standAt (wpAny_bind ?_))
  show wpAny _ A (do let _ ← comprehension (.ListComp elt [⟨.Name x px, iter, [], 0⟩] scope pos) scope env _ (newList []) false (eval iter env) (some (assign (.Name y py) env))) _ _ s
  refine wpAny_bind (wpAny_mono (wpAny_comprehension_free (use := some (assign (.Name y py) env)) (Q := fun _ s' => Q .next s') rfl hs hclos hkind hnames
    (wpAny_mono h (fun xv s₁ h₁ => wpAny_mono h₁ (fun it s₂ h₂ => ?_) fun _ _ e => e) fun _ _ e => e)) (fun _ s' hq => wpAny_pure (wpAny_pure hq)) fun _ _ e => e)
  obtain ⟨I, fp, wr, n, P, Md, St, Y, rfl, W, hsz, hfp, hst, self, hY, turn, hPs, done⟩ := h₂
  refine wpAny_newObj_type ?_
  simp only [newFunctionEnv, Option.isSome_some, if_true]
  refine wpAny_bind (wpAny_alloc ?_)
  refine wpAny_bind (wpAny_layCells _ (fun name kind cells => by cases kind == NameKind.cell <;> simp) _ _ _ _ ?_)
  rw [hc1, hc2]
  simp only [List.forIn_nil]
  refine wpAny_bind (wpAny_pure (wpAny_pure ?_))
  dsimp only
  generalize hH2 : s₂.heap.push { cls := .type "list", dict := none, data := .seq ([] : List Value).toArray } = H2
  have hC : H2.objs.size = s₂.heap.objs.size + 1 := by rw [← hH2, Heap.size_push]
  generalize hH3 : H2.push { cls := .type "dict", data := .dict #[] } = H3
  have hC3 : H3.objs.size = s₂.heap.objs.size + 2 := by rw [← hH3, Heap.size_push, hC]
  generalize hH4 : H3.push { cls := .type "cell", data := .cell none } = h₁
  have up2 : ∀ b o, H2.get? b = some o → h₁.get? b = some o := fun b o e => by rw [← hH4, ← hH3]; exact Heap.get?_push_of_some _ (Heap.get?_push_of_some _ e)
  have old : ∀ b o, s₂.heap.get? b = some o → h₁.get? b = some o := fun b o e => up2 b o (by rw [← hH2]; exact Heap.get?_push_of_some _ e)
  have hacc : h₁.get? s₂.heap.objs.size = some (lst []) := up2 _ _ (by rw [← hH2]; exact Heap.get?_push_size _ rfl)
  have hns₁ : h₁.Ns (s₂.heap.objs.size + 1) (fun _ => none) := by
    have := (Heap.Ns.new H2 (.type "dict")).keeps (h' := h₁) fun b o e => by rw [← hH4]; exact Heap.get?_push_of_some _ (by rw [← hH3]; exact e)
    rwa [hC] at this
  have hcell₁ : h₁.IsCell (s₂.heap.objs.size + 2) none := by
    have : h₁.get? H3.objs.size = some { cls := .type "cell", data := .cell none } := by rw [← hH4]; exact Heap.get?_push_size _ rfl
    rw [hC3] at this
    exact ⟨_, this, rfl⟩
  have hst₁ : St 0 h₁ := W.frame _ _ _ hst fun b _ o e => old b o e
  rw [hC, hC3]
  have n01 : s₂.heap.objs.size ≠ s₂.heap.objs.size + 1 := Nat.ne_of_lt (Nat.lt_succ_self _)
  have n02 : s₂.heap.objs.size ≠ s₂.heap.objs.size + 2 := Nat.ne_of_lt (Nat.lt_succ_of_lt (Nat.lt_succ_self _))
  have n12 : s₂.heap.objs.size + 1 ≠ s₂.heap.objs.size + 2 := Nat.ne_of_lt (Nat.lt_succ_self _)
  have loop : ∀ s₃ : Shared, s₃ = { s₂ with heap := h₁ } →
      codeAny (model prog w) A (.compLoop (.ListComp elt [⟨.Name x px, iter, [], 0⟩] scope pos) 0 (.ref I) (.ref s₂.heap.objs.size) (compEnvC scope ((x, s₂.heap.objs.size + 2) :: cl) (s₂.heap.objs.size + 1) env))
        (compPost (model prog w) A E (some (assign (.Name y py) env)) (fun _ s' => Q .next s') (.ref s₂.heap.objs.size) (s₂.heap.objs.size + 1)) s₃ := by
    rintro s₃ rfl
    refine comp_loop (s := s₂) (tk₁ := s₂.toks) (X := [s₂.heap.objs.size + 2, s₂.heap.objs.size + 1]) (ex := (s₂.heap.objs.size + 2) :: (s₂.heap.objs.size + 1) :: s₂.heap.objs.size :: wr) (H := s₂.heap) W hsz ?_ ?_ ?_ ?_ ?_ ?_ (fun h => (∃ m, h.Ns (s₂.heap.objs.size + 1) m) ∧ ∃ v, h.IsCell (s₂.heap.objs.size + 2) v) ?_ Y hY ?_ ?_ hst₁ ⟨⟨_, hns₁⟩, _, hcell₁⟩ hacc (Ext.of_keeps old)
    · intro b hb hf
      have := hfp b hf
      rcases List.mem_cons.mp hb with q | hb
      · exact absurd this (q ▸ Nat.not_lt.mpr (Nat.le_add_right _ 2))
      · exact absurd this ((List.mem_singleton.mp hb) ▸ Nat.not_lt.mpr (Nat.le_succ _))
    · exact fun hf => absurd (hfp _ hf) (Nat.lt_irrefl _)
    · intro hm
      rcases List.mem_cons.mp hm with q | hm
      · exact n02 q
      · exact n01 (List.mem_singleton.mp hm)
    · intro b hb
      rcases List.mem_cons.mp hb with q | hb
      · exact q ▸ List.mem_cons_self ..
      · exact (List.mem_singleton.mp hb) ▸ List.mem_cons_of_mem _ (List.mem_cons_self ..)
    · exact List.mem_cons_of_mem _ (List.mem_cons_of_mem _ (List.mem_cons_self ..))
    · exact fun b hb => List.mem_cons_of_mem _ (List.mem_cons_of_mem _ (List.mem_cons_of_mem _ hb))
    · rintro h h' ⟨⟨m, hm⟩, v, hv⟩ hk
      refine ⟨⟨m, hm.at' fun o e => hk _ (by simp) o e⟩, v, ?_⟩
      obtain ⟨o, e, r⟩ := hv
      exact ⟨o, hk _ (by simp) o e, r⟩
    · rintro i v h tk E' hi hP ⟨⟨m, hm⟩, v₀, hv⟩ hx
      refine wpAny_assign_Name (wpAny_storeName_cell (env := compEnvC scope ((x, s₂.heap.objs.size + 2) :: cl) (s₂.heap.objs.size + 1) env) (c := s₂.heap.objs.size + 2) hkind (hxk _ _) (by simp [compEnvC]) hv fun h₄ hv₄ hs₄ => ?_)
      have ue : Ext ((s₂.heap.objs.size + 2) :: (s₂.heap.objs.size + 1) :: s₂.heap.objs.size :: wr) h h₄ := Ext.of_same hs₄ (List.mem_cons_self ..)
      refine wpAny_mono (turn i v h₄ _ E' hi (hPs _ _ _ _ hP hs₄) hv₄ hv₄.lt (hx.trans ue)) (fun r s₄ h₅ => ?_) fun _ _ e => e
      obtain ⟨h', tk', rfl, hk, hY'⟩ := h₅
      refine ⟨h', tk', rfl, (Ext.of_same hs₄ (List.mem_cons_self ..)).trans (Ext.of_keeps hk), ⟨⟨m, (hm.sameBut hs₄ n12).keeps hk⟩, _, hv₄.keeps hk⟩, hY'⟩
    · rintro ys h tk hl hys hD ⟨⟨m, hm⟩, _⟩ hx
      obtain ⟨D, mL, hDe, hLC, hnL, fin⟩ := done ys h tk hl hys hD hx
      cases hDe
      show wpAny _ A (assign (.Name y py) env (.ref s₂.heap.objs.size)) _ _ _
      refine wpAny_assign_Name (wpAny_storeName_local hy hnL (fun h₂ hn₂ hs₂ => ?_) hp)
      refine ⟨m, hm.sameBut hs₂ (Ne.symm hLC), fun h'' hs'' => fin h'' (hn₂.sameBut hs'' hLC) fun b o b1 b2 e => hs''.extBut _ _ b2 (hs₂.extBut _ _ b1 e)⟩
  exact codeAny_compStart_list (loop _ rfl) (self _ _ _ hst₁ (loop _ rfl))

/-- range(n), the source of a block whose one name is a cell -/
theorem rangeC_at {env : Env} {elt : PySem.Expr} {x : Str} {px : Pos} {scope : Scope} {cl : List (Str × Addr)} {Q : Value → Shared → Prop} {n : Nat} {t : Tok}
    (hsm : Builtin.Range.small 0 n 1 = true) (hrs : Builtin.Range.rangeSize 0 n 1 = (n : Int)) (hsz : n ≤ sizeLine) (hh : A.handled = none) (lo : Nat → Prop)
    (Y : Nat → Value → Heap → Prop) (hlo : lo s.heap.objs.size)
    (hY : ∀ B i y (h h' : Heap), lo B → Y i y h → (∀ b o, B + 5 ≤ b → h.get? b = some o → h'.get? b = some o) → Y i y h')
    (turn : ∀ (i : Nat) u C c h tk (E' : Value → Shared → Prop), i < n → h.IsCell c (some (.int i u)) → s.heap.objs.size + 5 ≤ h.objs.size → (∀ c o, s.heap.get? c = some o → h.get? c = some o) →
      wpAny (model prog w) A (eval elt (compEnvC scope ((x, c) :: cl) C env))
        (fun y s₄ => ∃ h' tk', s₄ = { s with heap := h', toks := tk' } ∧ (∀ b o, h.get? b = some o → h'.get? b = some o) ∧ Y i y h') E' { s with heap := h, toks := tk })
    (done : ∀ ys D h tk, ys.length = n → (∀ (j : Nat) y, ys[j]? = some y → Y j y h) → h.get? D = some (lst ys) → D = s.heap.objs.size + 2 → (∀ c o, s.heap.get? c = some o → h.get? c = some o) → Q (.ref D) { s with heap := h, toks := tk }) :
    wpAny (model prog w) A (call (.type "range") [.int n t]) (fun xv s₁ => wpAny (model prog w) A (pyIter xv) (CompAtC prog w A env elt x px scope cl Q) E s₁) E s := by
  refine call_range_1 ?_
  refine wpAny_pyIter_range (a := 0) (b := n) (c := 1) (t := s.toks) (u := t) (v := s.toks + 1) (Heap.get?_push_size _ rfl) hsm ?_
  have z1 : (s.heap.push { cls := .type "range", data := .fields #[Value.int 0 s.toks, Value.int n t, Value.int 1 (s.toks + 1)] }).objs.size = s.heap.objs.size + 1 := Heap.size_push ..
  rw [hrs]
  generalize hh2 : (s.heap.push { cls := .type "range", data := .fields #[Value.int 0 s.toks, Value.int n t, Value.int 1 (s.toks + 1)] }).push { cls := .type "range_iterator", data := .fields #[rawInt 0, rawInt n, rawInt 1] } = Hp
  have z2 : Hp.objs.size = s.heap.objs.size + 2 := by rw [← hh2, Heap.size_push, z1]
  have hk : ∀ c o, s.heap.get? c = some o → Hp.get? c = some o := fun c o e => by rw [← hh2]; exact Heap.get?_push_of_some _ (Heap.get?_push_of_some _ e)
  have hI : IsRangeIter Hp (s.heap.objs.size + 1) (0 + ((0 : Nat) : Int) * 1) ((n : Int) - ((0 : Nat) : Int)) 1 := by
    have := Heap.get?_push_size (s.heap.push { cls := .type "range", data := .fields #[Value.int 0 s.toks, Value.int n t, Value.int 1 (s.toks + 1)] }) (o := { cls := .type "range_iterator", data := .fields #[rawInt 0, rawInt n, rawInt 1] }) rfl
    rw [z1] at this
    rw [← hh2]
    simpa using this
  have out : ∀ b, s.heap.objs.size + 5 ≤ b ∨ b < s.heap.objs.size → b ∉ (Hp.objs.size + 2) :: (Hp.objs.size + 1) :: Hp.objs.size :: [s.heap.objs.size + 1] := fun b hb hm => by
    rw [z2] at hm
    simp only [List.mem_cons, List.not_mem_nil, or_false] at hm
    rcases hb with hb | hb
    · rcases hm with q | q | q | q
      · exact absurd hb (q ▸ Nat.not_le.mpr (Nat.lt_succ_self _))
      · exact absurd hb (q ▸ Nat.not_le.mpr (Nat.lt_succ_of_lt (Nat.lt_succ_self _)))
      · exact absurd hb (q ▸ Nat.not_le.mpr (Nat.lt_succ_of_lt (Nat.lt_succ_of_lt (Nat.lt_succ_self _))))
      · exact absurd hb (q ▸ Nat.not_le.mpr (Nat.lt_succ_of_lt (Nat.lt_succ_of_lt (Nat.lt_succ_of_lt (Nat.lt_succ_self _)))))
    · rcases hm with q | q | q | q
      · exact absurd hb (q ▸ Nat.not_lt.mpr (Nat.le_add_right _ 4))
      · exact absurd hb (q ▸ Nat.not_lt.mpr (Nat.le_add_right _ 3))
      · exact absurd hb (q ▸ Nat.not_lt.mpr (Nat.le_add_right _ 2))
      · exact absurd hb (q ▸ Nat.not_lt.mpr (Nat.le_add_right _ 1))
  have up : ∀ (h : Heap), Ext ((Hp.objs.size + 2) :: (Hp.objs.size + 1) :: Hp.objs.size :: [s.heap.objs.size + 1]) Hp h → ∀ c o, s.heap.get? c = some o → h.get? c = some o :=
    fun h hx c o e => hx c o (out c (.inr (Heap.lt_size e))) (hk c o e)
  rw [z1]
  refine ⟨s.heap.objs.size + 1, [s.heap.objs.size + 1], [s.heap.objs.size + 1], n, _, _, _, Y, rfl,
    KTurns.ofWalks (LCg.range_walks hh 0 n) fun i v s Q E st q => by unfold letOwnedTupleGo; exact wpAny_pure q, hsz, ?_, hI, ?_, ?_, ?_, fun _ _ _ _ hp _ => hp, ?_⟩
  · intro c hc
    show c < Hp.objs.size
    rw [z2, List.mem_singleton.mp hc]
    exact Nat.lt_succ_self _
  · intro s₃ Q' E' st q
    exact (LCg.range_walks (prog := prog) (w := w) hh 0 n).self 0 s₃ Q' E' st q
  · intro i y h h' hy hx
    exact hY _ i y h h' hlo hy fun b o hb e => hx b o (out b (.inl hb)) e
  · rintro i v h tk E' hi ⟨u, rfl⟩ hc hsz' hx
    have hc' : h.IsCell (Hp.objs.size + 2) (some (.int (i : Nat) u)) := by rw [Int.zero_add] at hc; exact hc
    have hsz'' : s.heap.objs.size + 5 ≤ h.objs.size := by
      have q : Hp.objs.size + 2 < h.objs.size := hsz'
      rw [z2] at q
      exact q
    exact turn i u _ _ h tk E' hi hc' hsz'' (up h hx)
  · intro ys h tk hl hy hD hx
    exact done ys _ h tk hl hy hD z2 (up h hx)
end
end Mine
end
section -- Ident2
set_option maxRecDepth 100000
open PySem PySem.W PySem.Calls PyProof.Rows PyProof.V PySem.Spec PyProof.Rows.LCg
namespace Mine
section
variable {prog : Program} {w : World} {A : Around} {E : Value → Shared → Prop} {s : Shared}

/-- [1 if at == other else 0 for other in range(many)], many being 2, at an outer block's cell -/
theorem inner_row {env2 : Env} {other at_ many range : Str} {p1 p2 p3 p4 p5 p6 p7 p8 p9 pr pos2 : Pos} {scope2 : Scope} {cl2 : List (Str × Addr)} {c cm : Addr} {i : Nat} {u tm : Tok} {Q : Value → Shared → Prop} (hh : A.handled = none)
    (hclos : closureFor scope2 env2 = pure cl2) (hcell : ∀ y ∈ scope2.names, y.2 ≠ .cell) (hkind : scope2.kind = .function) (hnames : ∀ y ∈ scope2.names, y.2 = .local → scope2.names.lookup y.1 = some .local)
    (hxo : scope2.names.lookup other = some .local) (hat : ∀ C, (compEnvC scope2 cl2 C env2).kindOf at_ = some .cell) (hcl2 : cl2.lookup at_ = some c) (hc : s.heap.IsCell c (some (.int (i : Nat) u)))
    (hk2 : env2.scope.kind = .function) (hmany : env2.kindOf many = some .cell) (hclm : env2.cells.lookup many = some cm) (hcm : s.heap.IsCell cm (some (.int 2 tm)))
    (hr : ∀ Q' : Value → Shared → Prop, Q' (.type "range") s → wpAny (model prog w) A (eval (.Name range pr) env2) Q' E s)
    (hd1 : (other == ("__debug__" : Str)) = false) (hd2 : (at_ == ("__debug__" : Str)) = false) (hd3 : (many == ("__debug__" : Str)) = false)
    (hs : ∀ x, foldedSetIterable (.Call (.Name range pr) [.Name many p8] [] p9) env2 x = pure x)
    (hst1 : starEach [.Name many p8] env2 = (false, eval (.Name many p8) env2) :: starEach [] env2) (hcall : eval (.Call (.Name range pr) [.Name many p8] [] p9) env2 = do
          let __do_lift ← eval (.Name range pr) env2
          callWith p9 __do_lift [] (backTo p9 (starEach [.Name many p8] env2)) (backToKw p9 (keywordEach [] env2)))
    (done : ∀ D h' tk t0 t1, h'.get? D = some (lst [.int (if i = 0 then 1 else 0) t0, .int (if i = 1 then 1 else 0) t1]) → s.heap.objs.size ≤ D → (∀ c o, s.heap.get? c = some o → h'.get? c = some o) → Q (.ref D) { s with heap := h', toks := tk }) :
    wpAny (model prog w) A (eval (.ListComp (.IfExp (.Compare (.Name at_ p1) [.Eq] [.Name other p2] p3) (.Constant (.int 1) 0 p4) (.Constant (.int 0) 0 p5) p6) [⟨.Name other p7, .Call (.Name range pr) [.Name many p8] [] p9, [], 0⟩] scope2 pos2) env2) Q E s := by
  refine comp_eval hclos hcell hkind hnames ?_ hs
  refine Call_ (hr _ ?_) hcall
  refine PyProof.Rows.callWith_type1 (spliced_more ?_ hst1) hst1
  refine wpAny_Name (wpAny_loadName_cell hk2 hmany hclm hcm ?_) hd3
  refine spliced_none ?_
  refine range_at (n := 2) (by decide +kernel) (by decide +kernel) (by decide +kernel) hh hxo hkind (fun j y => ∃ t, y = .int (if i = j then 1 else 0) t) ?_ ?_
  · intro j u' C h tk m₂ E' hj hns ha hk
    have hcz : h.IsCell c (some (.int (i : Nat) u)) := hc.keeps hk
    refine wpAny_IfExp (wpAny_isTrue_Compare1 ?_ rfl)
    refine wpAny_Name (wpAny_loadName_cell (by exact hkind) (hat C) hcl2 hcz ?_) hd2
    refine ldVarK (m := m₂) hns ha ?_ (by exact hkind) (lookup_relabel_local hxo) hd1
    refine eq_int ?_
    refine wpAny_truthy_bool ?_
    by_cases hij : i = j
    · subst hij
      simp only [beq_self_eq_true, if_true]
      refine wpAny_Constant_int ⟨⟨_, rfl⟩, _, rfl⟩
    · have : ((i : Int) == (j : Int)) = false := by simpa using fun e => hij (by exact_mod_cast e)
      simp only [this, Bool.false_eq_true, if_false, if_neg hij]
      refine wpAny_Constant_int ⟨⟨_, rfl⟩, _, rfl⟩
  · intro ys D h tk hl hy hD hge hk
    match ys, hl with
    | [y0, y1], _ =>
      obtain ⟨t0, e0⟩ := hy 0 y0 rfl
      obtain ⟨t1, e1⟩ := hy 1 y1 rfl
      subst e0; subst e1
      exact done D h tk t0 t1 hD hge hk
end
end Mine
end
section -- Ident3
set_option maxRecDepth 100000
open PySem PySem.W PySem.Calls PyProof.Rows PyProof.V PySem.Spec PyProof.Rows.LCg
namespace Mine
section
variable {prog : Program} {w : World} {A : Around} {E : Value → Shared → Prop} {s : Shared}

/-- [[1 if at == other else 0 for other in range(many)] for at in range(many)], many being 2, stored under y -/
theorem ident_at {K : Frag} {mg mb : Str → Option Value} {p : Program} {loose : List Str} {mean : ExcName → Option Value} {h₀ : Heap} {m : Str → Option Value} {news : List (Addr × Obj)} {env : Env} {other at_ many y : Str} {p1 p2 p3 p4 p5 p6 p7 p8 p9 pr pos2 px : Pos} {scope scope2 : Scope} {cl : List (Str × Addr)}
    {cm : Addr} {ocm : Obj} {tm t : Tok} {Q : Flow → Shared → Prop} (hh : A.handled = none)
    (F : Fr h₀ env.locals s.heap m) (N : News h₀ env.locals s.heap news) (X : K.In h₀) (T : Top p loose mean mg mb h₀) (hm : (cm, ocm) ∈ news) (hd : ocm.data = .cell (some (.int 2 tm)))
    (e : nsIn K mainGlobals "range" = some none) (hv : bootBuiltins "range" = some (.type "range")) (hg : env.globals = mainGlobals) (hb : env.builtins = builtinsNs)
    (hclos : ∀ c C, closureFor scope2 (compEnvC scope ((at_, c) :: cl) C env) = pure [(at_, c)]) (hcell : ∀ y ∈ scope2.names, y.2 ≠ .cell) (hkind : scope2.kind = .function) (hnames : ∀ y ∈ scope2.names, y.2 = .local → scope2.names.lookup y.1 = some .local)
    (hxo : scope2.names.lookup other = some .local) (hat : ∀ c C C', (compEnvC scope2 [(at_, c)] C' (compEnvC scope ((at_, c) :: cl) C env)).kindOf at_ = some .cell)
    (hk2 : scope.kind = .function) (hmany : ∀ c C, (compEnvC scope ((at_, c) :: cl) C env).kindOf many = some .cell) (hclm : cl.lookup many = some cm) (hne : (many == at_) = false)
    (hrk : ∀ c C, (compEnvC scope ((at_, c) :: cl) C env).kindOf "range" = some .globalImplicit)
    (hd1 : (other == ("__debug__" : Str)) = false) (hd2 : (at_ == ("__debug__" : Str)) = false) (hd3 : (many == ("__debug__" : Str)) = false)
    (done : ∀ D c0 c1 h' tk t00 t01 t10 t11, Fr h₀ env.locals h' (fun z => if z = y then some (.ref D) else m z) → News h₀ env.locals h' ((D, lst [.ref c0, .ref c1]) :: (c0, lst [.int 1 t00, .int 0 t01]) :: (c1, lst [.int 0 t10, .int 1 t11]) :: news) →
      (∀ p ∈ news, p.1 < D) → D < c0 → D < c1 → @Ne Nat c0 c1 → Q .next { s with heap := h', toks := tk }) :
    wpAny (model prog w) A (call (.type "range") [.int 2 t]) (fun xv s₁ => wpAny (model prog w) A (pyIter xv)
      (CompAtC prog w A env (.ListComp (.IfExp (.Compare (.Name at_ p1) [.Eq] [.Name other p2] p3) (.Constant (.int 1) 0 p4) (.Constant (.int 0) 0 p5) p6) [⟨.Name other p7, .Call (.Name "range" pr) [.Name many p8] [] p9, [], 0⟩] scope2 pos2) at_ px scope cl (AssQ env y Q)) E s₁) E s := by
  refine rangeC_at (n := 2) (by decide +kernel) (by decide +kernel) (by decide +kernel) hh (fun B => B = s.heap.objs.size)
    (fun i y h => ∃ a t0 t1, y = .ref a ∧ s.heap.objs.size + 5 ≤ a ∧ h.get? a = some (lst [.int (if i = 0 then 1 else 0) t0, .int (if i = 1 then 1 else 0) t1])) rfl ?_ ?_ ?_
  · rintro B i y h h' rfl ⟨a, t0, t1, rfl, ha, he⟩ hk
    exact ⟨a, t0, t1, rfl, ha, hk a _ ha he⟩
  · intro i u C c h tk E' hi hc hsz hk
    have F' : Fr h₀ env.locals h m := F.keeps hk
    have hcm : h.IsCell cm (some (.int 2 tm)) := ⟨ocm, (N.grown hk).get hm, hd⟩
    refine inner_row (s := { s with heap := h, toks := tk }) hh (hclos c C) hcell hkind hnames hxo (hat c C) (by simp) hc hk2 (hmany c C) (by show List.lookup many ((at_, c) :: cl) = some cm; rw [List.lookup_cons, hne]; exact hclm) hcm ?_ hd1 hd2 hd3 (by intro _; rfl) (by rfl) (by rfl) ?_
    · intro Q' hq
      exact LCgL.ld_built (s := { s with heap := h, toks := tk }) F' X T e hv (by decide) hq hg hb hk2 (hrk c C)
    · intro D h' tk' t0 t1 hD hge hk'
      exact ⟨h', tk', rfl, hk', D, t0, t1, rfl, Nat.le_trans hsz hge, hD⟩
  · intro ys D h tk hl hy hD hDe hk
    match ys, hl with
    | [y0, y1], _ =>
      obtain ⟨c0, t00, t01, rfl, h0, e0⟩ := hy 0 y0 rfl
      obtain ⟨c1, t10, t11, rfl, h1, e1⟩ := hy 1 y1 rfl
      have F' : Fr h₀ env.locals h m := F.keeps hk
      have hLlt : env.locals < s.heap.objs.size := F.ns.lt
      have hLD : env.locals < D := by rw [hDe]; exact Nat.lt_of_lt_of_le hLlt (Nat.le_add_right _ 2)
      have d0 : D + 1 < c0 := by rw [hDe]; exact Nat.lt_of_lt_of_le (Nat.lt_of_lt_of_le (Nat.lt_succ_self _) (Nat.le_add_right _ 1)) h0
      have d1 : D + 1 < c1 := by rw [hDe]; exact Nat.lt_of_lt_of_le (Nat.lt_of_lt_of_le (Nat.lt_succ_self _) (Nat.le_add_right _ 1)) h1
      have hne : @Ne Nat c0 c1 := fun q => by
        rw [q, e1] at e0
        simp at e0
      refine ⟨D, m, rfl, Nat.ne_of_lt (Nat.lt_succ_of_lt hLD), F'.ns, fun h'' hn hk' => ?_⟩
      have hL₀ : ∀ b o, h₀.get? b = some o → b < s.heap.objs.size := fun b o q => Heap.lt_size (F.keep b o q)
      have small : ∀ b, b < s.heap.objs.size → b ≠ D + 1 := fun b hb q => absurd hb (q ▸ Nat.not_lt.mpr (by rw [hDe]; exact Nat.le_add_right _ 3))
      have nl : ∀ b o, h₀.get? b = some o → b ≠ env.locals := fun b o q z => absurd (Heap.lt_size q) (z ▸ Nat.not_lt.mpr F.above)
      have new : ∀ b, s.heap.objs.size ≤ b → h₀.get? b = none := fun b hb => by
        cases q : h₀.get? b with
        | none => rfl
        | some o => exact absurd (hL₀ b o q) (Nat.not_lt.mpr hb)
      have hD' : s.heap.objs.size ≤ D := by rw [hDe]; exact Nat.le_add_right _ 2
      refine done D c0 c1 h'' _ t00 t01 t10 t11 ⟨hn, fun b o q => hk' b o (nl b o q) (small b (hL₀ b o q)) (F'.keep b o q), F.above⟩ ?_ ?_ (Nat.lt_trans (Nat.lt_succ_self _) d0) (Nat.lt_trans (Nat.lt_succ_self _) d1) hne
      · intro q hq
        rcases List.mem_cons.mp hq with rfl | hq
        · exact ⟨hk' _ _ (Nat.ne_of_gt hLD) (Nat.ne_of_lt (Nat.lt_succ_self _)) hD, Nat.ne_of_gt hLD, new _ hD'⟩
        rcases List.mem_cons.mp hq with rfl | hq
        · exact ⟨hk' _ _ (Nat.ne_of_gt (Nat.lt_trans (Nat.lt_succ_of_lt hLD) d0)) (Nat.ne_of_gt d0) e0, Nat.ne_of_gt (Nat.lt_trans (Nat.lt_succ_of_lt hLD) d0), new _ (Nat.le_trans (Nat.le_add_right _ 5) h0)⟩
        rcases List.mem_cons.mp hq with rfl | hq
        · exact ⟨hk' _ _ (Nat.ne_of_gt (Nat.lt_trans (Nat.lt_succ_of_lt hLD) d1)) (Nat.ne_of_gt d1) e1, Nat.ne_of_gt (Nat.lt_trans (Nat.lt_succ_of_lt hLD) d1), new _ (Nat.le_trans (Nat.le_add_right _ 5) h1)⟩
        have z := N q hq
        exact ⟨hk' _ _ z.2.1 (small _ (Heap.lt_size z.1)) (hk _ _ z.1), z.2⟩
      · intro q hq
        exact Nat.lt_of_lt_of_le (Heap.lt_size (N q hq).1) hD'
end
end Mine
end
section -- Rows
open PySem PySem.W PySem.Calls PyProof.Rows PyProof.Rows.LCg
namespace Mine
def HoldR (P : Prop) : Prop := P
theorem holdR {P : Prop} (h : HoldR P) : P := h
theorem lt_all {l : List (Addr × Obj)} {a b : Nat} {o : Obj} (h : ∀ p ∈ l, p.1 < b) (m : (a, o) ∈ l) : a < b := h _ m

theorem ints_of_fn {vs : List Value} {ns : List Int} (hl : vs.length = ns.length) (h : ∀ (j : Nat) v, vs[j]? = some v → ∃ n t, ns[j]? = some n ∧ v = .int n t) : IntsAre vs ns := by
  induction vs generalizing ns with
  | nil =>
    cases ns with
    | nil => exact .nil
    | cons n r => simp at hl
  | cons v r ih =>
    cases ns with
    | nil => simp at hl
    | cons n q =>
      obtain ⟨n', t, hn, rfl⟩ := h 0 v rfl
      have hn' : n = n' := by simpa using hn
      subst hn'
      refine .cons n t (ih (by simpa using hl) fun j v' hv => ?_)
      obtain ⟨n'', t', hn'', e⟩ := h (j + 1) v' (by simpa using hv)
      exact ⟨n'', t', by simpa using hn'', e⟩

section
variable {prog : Program} {w : World} {A : Around} {E : Value → Shared → Prop} {s : Shared}
/-- one * b[at], over the pairs of enumerate(a) -/
theorem dot_block {env : Env} {one b at_ : Str} {p1 p2 p3 p4 p5 pa pb tp : Pos} {kk : Nat} {scope : Scope} {cl : List (Str × Addr)} {Q : Value → Shared → Prop} {la lb c : Addr} {va vb : List Value} {xs ys : List Int} {h₀ : Heap} {L : Addr} {m : Str → Option Value} {news : List (Addr × Obj)} {oc : Obj}
    (F : Fr h₀ L s.heap m) (N : News h₀ L s.heap news) (hla : s.heap.IsList la va.toArray) (hlb : s.heap.IsList lb vb.toArray) (hi : IntsAre va xs) (hj : IntsAre vb ys) (hlen : xs.length = ys.length) (hsz : xs.length ≤ sizeLine) (hsm : xs.length < 2 ^ 63)
    (hb : ∀ x ∈ xs, -2 ^ 64 < x ∧ x < 2 ^ 64) (hh : A.handled = none) (hc : cl.lookup b = some c) (hm : (c, oc) ∈ news) (hd : oc.data = .cell (some (.ref lb)))
    (hxa : scope.names.lookup at_ = some .local) (hxb : scope.names.lookup one = some .local) (hab : ¬ at_ = one) (hkind : scope.kind = .function)
    (hk1 : ∀ C, (compEnvC scope cl C env).kindOf b = some .cell) (hdb : (one == ("__debug__" : Str)) = false) (hdb2 : (b == ("__debug__" : Str)) = false) (hdb3 : (at_ == ("__debug__" : Str)) = false)
    (done : ∀ D h tk vs, Fr h₀ L h m → News h₀ L h ((D, lst vs) :: news) → (∀ p ∈ news, p.1 < D) → IntsAre vs (List.zipWith (· * ·) xs ys) → Q (.ref D) { s with heap := h, toks := tk }) :
    wpAny (model prog w) A (call (.type "enumerate") [.ref la]) (fun xv s₁ => wpAny (model prog w) A (pyIter xv) (CompAt prog w A env (.BinOp (.Name one p1) .Mult (.Subscript (.Name b p2) (.Name at_ p3) p4) p5) (.Tuple [.Name at_ pa, .Name one pb] kk tp) scope cl Q) E s₁) E s := by
  have hsz' : va.toArray.size = xs.length := by simp [hi.length]
  refine enum_at hla (by rw [hsz']; exact hsz) hh hxa hxb hab hkind (fun i y => ∃ n t, (List.zipWith (· * ·) xs ys)[i]? = some n ∧ y = .int n t) ?_ ?_
  · intro i x t C h tk m₂ E' hx hns ha hb' hk
    have hx' : va[i]? = some x := by simpa using hx
    have hin : i < xs.length := by
      rw [← hi.length]
      rcases Nat.lt_or_ge i va.length with q | q
      · exact q
      · rw [List.getElem?_eq_none q] at hx'; cases hx'
    obtain ⟨u, hu⟩ := hi.get i xs[i] (by simp [hin])
    rw [hu] at hx'
    obtain rfl := Option.some.inj hx'
    have hin' : i < ys.length := hlen ▸ hin
    obtain ⟨u', hu'⟩ := hj.get i ys[i] (by simp [hin'])
    have N' : News h₀ L h news := N.grown hk
    have hlb' : h.IsList lb vb.toArray := hlb.at fun o e => hk _ o e
    refine wpAny_BinOp (ldVarK (m := m₂) hns hb' ?_ (by exact hkind) (lookup_relabel_local hxb) hdb)
    refine Subscript_ (wpAny_Name (wpAny_loadName_cell (c := c) (by exact hkind) (hk1 C) hc ⟨oc, N'.get hm, hd⟩ ?_) hdb2)
    refine ldVarK (m := m₂) hns ha ?_ (by exact hkind) (lookup_relabel_local hxa) hdb3
    refine tail_any hlb'.typeIs slot_list_getitem.lookup (wpAny_getItem_list hlb' (by exact Int.natCast_nonneg i) (by have := Nat.lt_trans hin hsm; exact_mod_cast this) (x := .int ys[i] u') (by simpa using hu') ?_) (by with_unfolding_all rfl)
    refine mul_int ⟨⟨_, rfl⟩, xs[i] * ys[i], _, by rw [List.getElem?_zipWith, List.getElem?_eq_getElem hin, List.getElem?_eq_getElem hin'], rfl⟩ ?_
    have := hb xs[i] (List.getElem_mem hin)
    exact IntMulOk.of_left (intBits_le_64 this.1 this.2)
  · intro ys' D h tk hl hy hD hge hk
    refine done D h tk ys' (F.keeps hk) (fun p hp => ?_) (fun p hp => ?_) (ints_of_fn ?_ hy)
    · rcases List.mem_cons.mp hp with rfl | hp
      · refine ⟨hD, fun e => ?_, ?_⟩
        · exact absurd F.ns.lt (Nat.not_lt.mpr (e ▸ hge))
        · cases e : h₀.get? D with
          | none => rfl
          | some o => exact absurd (Heap.lt_size (F.keep _ _ e)) (Nat.not_lt.mpr hge)
      · exact (N.grown hk) p hp
    · exact Nat.lt_of_lt_of_le (Heap.lt_size (N p hp).1) hge
    · rw [hl, hsz', List.length_zipWith, ← hlen, Nat.min_self]

/-- one - many * b[at], over the pairs of enumerate(a) -/
theorem less_block {env : Env} {one b at_ many : Str} {p1 p2 p3 p4 p5 p6 p7 pa pb tp : Pos} {kk : Nat} {scope : Scope} {cl : List (Str × Addr)} {Q : Value → Shared → Prop} {la lb c c' : Addr} {va vb : List Value} {xs ys : List Int} {k : Int} {kt : Tok} {h₀ : Heap} {L : Addr} {m : Str → Option Value} {news : List (Addr × Obj)} {oc oc' : Obj}
    (F : Fr h₀ L s.heap m) (N : News h₀ L s.heap news) (hla : s.heap.IsList la va.toArray) (hlb : s.heap.IsList lb vb.toArray) (hi : IntsAre va xs) (hj : IntsAre vb ys) (hlen : xs.length = ys.length) (hsz : xs.length ≤ sizeLine) (hsm : xs.length < 2 ^ 63)
    (hb : ∀ x ∈ ys, -2 ^ 64 < x ∧ x < 2 ^ 64) (hh : A.handled = none) (hc : cl.lookup b = some c) (hm : (c, oc) ∈ news) (hd : oc.data = .cell (some (.ref lb)))
    (hc' : cl.lookup many = some c') (hm' : (c', oc') ∈ news) (hd' : oc'.data = .cell (some (.int k kt)))
    (hxa : scope.names.lookup at_ = some .local) (hxb : scope.names.lookup one = some .local) (hab : ¬ at_ = one) (hkind : scope.kind = .function)
    (hk1 : ∀ C, (compEnvC scope cl C env).kindOf b = some .cell) (hk2 : ∀ C, (compEnvC scope cl C env).kindOf many = some .cell) (hdb : (one == ("__debug__" : Str)) = false) (hdb2 : (b == ("__debug__" : Str)) = false) (hdb3 : (at_ == ("__debug__" : Str)) = false) (hdb4 : (many == ("__debug__" : Str)) = false)
    (done : ∀ D h tk vs, Fr h₀ L h m → News h₀ L h ((D, lst vs) :: news) → (∀ p ∈ news, p.1 < D) → s.heap.get? D = none → (∀ b o, s.heap.get? b = some o → h.get? b = some o) → IntsAre vs (List.zipWith (fun x y => x - k * y) xs ys) → Q (.ref D) { s with heap := h, toks := tk }) :
    wpAny (model prog w) A (call (.type "enumerate") [.ref la]) (fun xv s₁ => wpAny (model prog w) A (pyIter xv) (CompAt prog w A env (.BinOp (.Name one p1) .Sub (.BinOp (.Name many p6) .Mult (.Subscript (.Name b p2) (.Name at_ p3) p4) p7) p5) (.Tuple [.Name at_ pa, .Name one pb] kk tp) scope cl Q) E s₁) E s := by
  have hsz' : va.toArray.size = xs.length := by simp [hi.length]
  refine enum_at hla (by rw [hsz']; exact hsz) hh hxa hxb hab hkind (fun i y => ∃ n t, (List.zipWith (fun x y => x - k * y) xs ys)[i]? = some n ∧ y = .int n t) ?_ ?_
  · intro i x t C h tk m₂ E' hx hns ha hb' hk
    have hx' : va[i]? = some x := by simpa using hx
    have hin : i < xs.length := by
      rw [← hi.length]
      rcases Nat.lt_or_ge i va.length with q | q
      · exact q
      · rw [List.getElem?_eq_none q] at hx'; cases hx'
    obtain ⟨u, hu⟩ := hi.get i xs[i] (by simp [hin])
    rw [hu] at hx'
    obtain rfl := Option.some.inj hx'
    have hin' : i < ys.length := hlen ▸ hin
    obtain ⟨u', hu'⟩ := hj.get i ys[i] (by simp [hin'])
    have N' : News h₀ L h news := N.grown hk
    have hlb' : h.IsList lb vb.toArray := hlb.at fun o e => hk _ o e
    refine wpAny_BinOp (ldVarK (m := m₂) hns hb' ?_ (by exact hkind) (lookup_relabel_local hxb) hdb)
    refine wpAny_BinOp (wpAny_Name (wpAny_loadName_cell (c := c') (by exact hkind) (hk2 C) hc' ⟨oc', N'.get hm', hd'⟩ ?_) hdb4)
    refine Subscript_ (wpAny_Name (wpAny_loadName_cell (c := c) (by exact hkind) (hk1 C) hc ⟨oc, N'.get hm, hd⟩ ?_) hdb2)
    refine ldVarK (m := m₂) hns ha ?_ (by exact hkind) (lookup_relabel_local hxa) hdb3
    refine tail_any hlb'.typeIs slot_list_getitem.lookup (wpAny_getItem_list hlb' (by exact Int.natCast_nonneg i) (by have := Nat.lt_trans hin hsm; exact_mod_cast this) (x := .int ys[i] u') (by simpa using hu') ?_) (by with_unfolding_all rfl)
    refine mul_int (sub_int ⟨⟨_, rfl⟩, xs[i] - k * ys[i], _, by rw [List.getElem?_zipWith, List.getElem?_eq_getElem hin, List.getElem?_eq_getElem hin'], rfl⟩) ?_
    have := hb ys[i] (List.getElem_mem hin')
    exact IntMulOk.of_right (intBits_le_64 this.1 this.2)
  · intro ys' D h tk hl hy hD hge hk
    refine done D h tk ys' (F.keeps hk) (fun p hp => ?_) (fun p hp => ?_) ?_ hk (ints_of_fn ?_ hy)
    · rcases List.mem_cons.mp hp with rfl | hp
      · refine ⟨hD, fun e => ?_, ?_⟩
        · exact absurd F.ns.lt (Nat.not_lt.mpr (e ▸ hge))
        · cases e : h₀.get? D with
          | none => rfl
          | some o => exact absurd (Heap.lt_size (F.keep _ _ e)) (Nat.not_lt.mpr hge)
      · exact (N.grown hk) p hp
    · exact Nat.lt_of_lt_of_le (Heap.lt_size (N p hp).1) hge
    · cases e : s.heap.get? D with
      | none => rfl
      | some o => exact absurd (Heap.lt_size e) (Nat.not_lt.mpr hge)
    · rw [hl, hsz', List.length_zipWith, ← hlen, Nat.min_self]
end

local macro_rules | `(tactic| walk_at "eval ListComp") => `(tactic| (k_here; k_dflt (refine comp_eval (by with_unfolding_all rfl) (by decide) (by rfl) (by decide) ?_)))
local macro_rules | `(tactic| walk_at "call type:enumerate") => `(tactic| (k_here; (with_reducible show wpAny _ _ (call (Value.type _) [Value.ref _]) (fun xv s₁ => wpAny _ _ (pyIter xv) (CompAt _ _ _ _ _ _ _ _ _) _ _) _ _); refine holdR ?_))
set_option maxRecDepth 100000 in
set_option maxHeartbeats 8000000 in
theorem row_dot_c (w : World) (mean : ExcName → Option Value) (mg mb : Str → Option Value) (la lb : Addr) (va vb : List Value) (xs ys : List Int) (hi : IntsAre va xs) (hj : IntsAre vb ys) (hlen : xs.length = ys.length) (hsz : xs.length ≤ sizeLine) (hsm : xs.length < 2 ^ 63) (hbd : ∀ x ∈ xs, -2 ^ 64 < x ∧ x < 2 ^ 64) :
   CtrK w mean mg mb 39 [.ref la, .ref lb] 4 (fun h => h.IsList la va.toArray ∧ h.IsList lb vb.toArray) (fun _ v _ => ∃ t, v = .int (dot xs ys) t) := by
  unfold CtrK TP KK PR
  w_top off
  k_fill
  intro dp un gd cn cs a ccd cl outer A₀ base h₀ L m s Q E B F X T hk hd hu hpre hret
  refine wpAny_call ?_
  k_dflt (first | (refine' enter_plain ?k1Zk ?k2Zk ?k3Zk ?k5Zk ?kAZk ?kFZk ?kKZk ?k6Zk ?k7Zk ?k8Zk ?k9Zk ?kBZk ?_ ?c2Zk ?c3Zk ?c4Zk ?c5Zk; (case kAZk => exact rfl); (case kFZk => exact rfl); (case kKZk => assumption); (case k1Zk => k_asm); (case k2Zk => k_asm); (case k3Zk => k_asm); (case k5Zk => k_asm); (case k6Zk => k_is); (case k7Zk => k_is); (case k8Zk => ktr_room); (case k9Zk => exact BindsTo.of_eq rfl); (case c5Zk => decide); (case kBZk => exact locs rfl); (case c2Zk => exact rfl); (case c3Zk => exact rfl); (case c4Zk => exact rfl); k_whole; intro L' h' FG' F' N' B' X' T'; (try dsimp only); (try k_lift B'); (try k_fold)) | (refine' enter_cells ?k1Zk ?k2Zk ?k3Zk ?k5Zk ?kAZk ?kFZk ?kKZk ?k6Zk ?k7Zk ?k8Zk ?k9Zk ?kBZk ?kDZk ?_ ?c2Zk ?c3Zk ?c4Zk; (case kAZk => exact rfl); (case kFZk => exact rfl); (case kKZk => assumption); (case k1Zk => k_asm); (case k2Zk => k_asm); (case k3Zk => k_asm); (case k5Zk => k_asm); (case k6Zk => k_is); (case k7Zk => k_is); (case k8Zk => ktr_room); (case k9Zk => exact BindsTo.of_eq rfl); (case kBZk => exact rfl); (case kDZk => decide +kernel); (case c2Zk => exact rfl); (case c3Zk => exact rfl); (case c4Zk => exact rfl); k_whole; intro L' h' tk' cells' FG' F' N' Y' B' X' T'; k_cells Y'; (try simp only [List.cons_append, List.nil_append] at N'); (try dsimp only); (try k_lift B'); (try k_fold)))
  obtain ⟨hla, hlb⟩ := hpre
  k_steps
  unfold HoldR
  with_reducible (with_reducible show wpAny _ _ (call (Value.type _) [Value.ref _]) (fun xv s₁ => wpAny _ _ (pyIter xv) (CompAt _ _ _ _ _ _ _ _ _) _ _) _ _); (k_dflt ((rename Fr _ _ _ _ => lF'); (rename News _ _ _ _ => lN'); (with_unfolding_all refine' dot_block lF' lN' ?a1 ?a2 ?a3 ?a4 ?a5 ?a6 ?a7 ?a8 ?a9 ?a10 ?a11 ?a12 ?a13 ?a14 ?a15 ?a16 ?a17 ?a18 ?a19 ?a20 ?_); (case a10 => with_unfolding_all rfl); (case a11 => k_dflt k_mem); (case a12 => with_unfolding_all assumption); (case a1 => is_list); (case a2 => is_list); (case a3 => assumption); (case a4 => assumption); (case a5 => assumption); (case a6 => assumption); (case a7 => assumption); (case a8 => assumption); (case a9 => with_unfolding_all rfl); (case a13 => rfl); (case a14 => rfl); (case a15 => decide); (case a16 => rfl); (case a17 => intro _; rfl); (case a18 => decide); (case a19 => decide); (case a20 => decide); clear lF' lN'; intro D' h' tk' vs' F' N' l1 hI'; (try k_lt l1); (try k_fold)))
  k_steps
  exact hret _ _ _ (Fr.keep (by assumption)) ⟨_, rfl⟩

set_option maxRecDepth 100000 in
set_option maxHeartbeats 8000000 in
theorem row_less_c (w : World) (mean : ExcName → Option Value) (mg mb : Str → Option Value) (la lb : Addr) (va vb : List Value) (xs ys : List Int) (k : Int) (kt : Tok) (hi : IntsAre va xs) (hj : IntsAre vb ys) (hlen : xs.length = ys.length) (hsz : xs.length ≤ sizeLine) (hsm : xs.length < 2 ^ 63) (hbd : ∀ x ∈ ys, -2 ^ 64 < x ∧ x < 2 ^ 64) :
   CtrK w mean mg mb 44 [.ref la, .ref lb, .int k kt] 4 (fun h => h.IsList la va.toArray ∧ h.IsList lb vb.toArray) (fun H v h => ∃ D vs, v = .ref D ∧ H.objs.size ≤ D ∧ h.get? D = some (lst vs) ∧ IntsAre vs (List.zipWith (fun x y => x - k * y) xs ys)) := by
  unfold CtrK TP KK PR
  w_top off
  k_fill
  intro dp un gd cn cs a ccd cl outer A₀ base h₀ L m s Q E B F X T hk hd hu hpre hret
  refine wpAny_call ?_
  k_dflt (first | (refine' enter_plain ?k1Zk ?k2Zk ?k3Zk ?k5Zk ?kAZk ?kFZk ?kKZk ?k6Zk ?k7Zk ?k8Zk ?k9Zk ?kBZk ?_ ?c2Zk ?c3Zk ?c4Zk ?c5Zk; (case kAZk => exact rfl); (case kFZk => exact rfl); (case kKZk => assumption); (case k1Zk => k_asm); (case k2Zk => k_asm); (case k3Zk => k_asm); (case k5Zk => k_asm); (case k6Zk => k_is); (case k7Zk => k_is); (case k8Zk => ktr_room); (case k9Zk => exact BindsTo.of_eq rfl); (case c5Zk => decide); (case kBZk => exact locs rfl); (case c2Zk => exact rfl); (case c3Zk => exact rfl); (case c4Zk => exact rfl); k_whole; intro L' h' FG' F' N' B' X' T'; (try dsimp only); (try k_lift B'); (try k_fold)) | (refine' enter_cells ?k1Zk ?k2Zk ?k3Zk ?k5Zk ?kAZk ?kFZk ?kKZk ?k6Zk ?k7Zk ?k8Zk ?k9Zk ?kBZk ?kDZk ?_ ?c2Zk ?c3Zk ?c4Zk; (case kAZk => exact rfl); (case kFZk => exact rfl); (case kKZk => assumption); (case k1Zk => k_asm); (case k2Zk => k_asm); (case k3Zk => k_asm); (case k5Zk => k_asm); (case k6Zk => k_is); (case k7Zk => k_is); (case k8Zk => ktr_room); (case k9Zk => exact BindsTo.of_eq rfl); (case kBZk => exact rfl); (case kDZk => decide +kernel); (case c2Zk => exact rfl); (case c3Zk => exact rfl); (case c4Zk => exact rfl); k_whole; intro L' h' tk' cells' FG' F' N' Y' B' X' T'; k_cells Y'; (try simp only [List.cons_append, List.nil_append] at N'); (try dsimp only); (try k_lift B'); (try k_fold)))
  obtain ⟨hla, hlb⟩ := hpre
  k_steps
  unfold HoldR
  with_reducible (with_reducible show wpAny _ _ (call (Value.type _) [Value.ref _]) (fun xv s₁ => wpAny _ _ (pyIter xv) (CompAt _ _ _ _ _ _ _ _ _) _ _) _ _); (k_dflt ((rename Fr _ _ _ _ => lF'); (rename News _ _ _ _ => lN'); (with_unfolding_all refine' less_block lF' lN' ?a1 ?a2 ?a3 ?a4 ?a5 ?a6 ?a7 ?a8 ?a9 ?a10 ?a11 ?a12 ?b10 ?b11 ?b12 ?a13 ?a14 ?a15 ?a16 ?a17 ?b17 ?a18 ?a19 ?a20 ?b20 ?_); (case a10 => with_unfolding_all rfl); (case a11 => k_dflt k_mem); (case a12 => with_unfolding_all assumption); (case b10 => with_unfolding_all rfl); (case b11 => k_dflt k_mem); (case b12 => with_unfolding_all assumption); (case a1 => is_list); (case a2 => is_list); (case a3 => assumption); (case a4 => assumption); (case a5 => assumption); (case a6 => assumption); (case a7 => assumption); (case a8 => assumption); (case a9 => with_unfolding_all rfl); (case a13 => rfl); (case a14 => rfl); (case a15 => decide); (case a16 => rfl); (case a17 => intro _; rfl); (case b17 => intro _; rfl); (case a18 => decide); (case a19 => decide); (case a20 => decide); (case b20 => decide); clear lF' lN'; intro D' h' tk' vs' F' N' l1 hn' hk' hI'; (try k_lt l1); (try k_fold)))
  k_steps
  rename Fr s.heap _ _ _ => lF
  rename News s.heap _ _ _ => lN
  rename _ ∧ _ => l1
  exact hret _ _ _ lF.keep ⟨_, _, rfl, Nat.le_trans lF.above (Nat.le_of_lt (Nat.lt_trans (Nat.lt_succ_self _) l1.2)), (lN _ (.head _)).1, by assumption⟩
end Mine
end
section -- Use
open PySem PySem.W PySem.Calls PyProof.Rows PyProof.Rows.LCg
namespace Mine
section
variable {w : World} {mean : ExcName → Option Value} {mg mb : Str → Option Value} {dp un : Nat} {gd : Option (List Code)} {cn : Str} {cs : Scope} {a : Addr} {ccd : Value} {cl : List (Str × Addr)} {outer : List Env} {A₀ : Around} {base h₀ : Heap} {L : Addr} {m : Str → Option Value} {s : Shared} {Q E : Value → Shared → Prop} {news : List (Addr × Obj)}
theorem row_dot_use {la lb : Addr} {va vb : List Value} {xs ys : List Int} (B : Below A₀ base outer h₀) (F : Fr h₀ L s.heap m) (N : News h₀ L s.heap news) (X : (hd.heap_39 w.params).In h₀) (T : Top hd.view_39 (looseW hd.view_39 []) mean mg mb h₀) (hk : cs.kind = .function)
    (hd : dp + 4 < recursionLimit) (hu : un + 8 * 4 < cLine) (ha : s.heap.IsList la va.toArray) (hb : s.heap.IsList lb vb.toArray) (hi : IntsAre va xs) (hj : IntsAre vb ys) (hlen : xs.length = ys.length) (hsz : xs.length ≤ sizeLine) (hsm : xs.length < 2 ^ 63) (hbd : ∀ x ∈ xs, -2 ^ 64 < x ∧ x < 2 ^ 64)
    (ret : ∀ t h' tk', Fr h₀ L h' m → News h₀ L h' news → Q (.int (dot xs ys) t) { s with heap := h', toks := tk' }) :
    wpAny (model PySem.Challenge.rw_sy0001_01.row.prog w) (ktrTop dp un gd cn cs L a ccd cl outer) (call (.ref 39) [.ref la, .ref lb]) Q E s :=
  (row_dot_c w mean mg mb la lb va vb xs ys hi hj hlen hsz hsm hbd) dp un gd cn cs a ccd cl outer A₀ base h₀ L m s Q E B F X T hk hd hu ⟨ha, hb⟩ fun v h' tk' hk' hp => by
    obtain ⟨t, rfl⟩ := hp
    exact ret t h' tk' (F.keeps hk') (N.grown hk')

theorem row_less_use {la lb : Addr} {va vb : List Value} {xs ys : List Int} {k : Int} {kt : Tok} (B : Below A₀ base outer h₀) (F : Fr h₀ L s.heap m) (N : News h₀ L s.heap news) (X : (hd.heap_39 w.params).In h₀) (T : Top hd.view_39 (looseW hd.view_39 []) mean mg mb h₀) (hk : cs.kind = .function)
    (hd : dp + 4 < recursionLimit) (hu : un + 8 * 4 < cLine) (ha : s.heap.IsList la va.toArray) (hb : s.heap.IsList lb vb.toArray) (hi : IntsAre va xs) (hj : IntsAre vb ys) (hlen : xs.length = ys.length) (hsz : xs.length ≤ sizeLine) (hsm : xs.length < 2 ^ 63) (hbd : ∀ x ∈ ys, -2 ^ 64 < x ∧ x < 2 ^ 64)
    (ret : ∀ D vs h' tk', Fr h₀ L h' m → News h₀ L h' ((D, lst vs) :: news) → (∀ p ∈ news, p.1 < D) → IntsAre vs (List.zipWith (fun x y => x - k * y) xs ys) → Q (.ref D) { s with heap := h', toks := tk' }) :
    wpAny (model PySem.Challenge.rw_sy0001_01.row.prog w) (ktrTop dp un gd cn cs L a ccd cl outer) (call (.ref 44) [.ref la, .ref lb, .int k kt]) Q E s :=
  (row_less_c w mean mg mb la lb va vb xs ys k kt hi hj hlen hsz hsm hbd) dp un gd cn cs a ccd cl outer A₀ base h₀ L m s Q E B F X T hk hd hu ⟨ha, hb⟩ fun v h' tk' hk' hp => by
    obtain ⟨D, vs, rfl, hD, hg, hI⟩ := hp
    refine ret D vs h' tk' (F.keeps hk') (fun p hp => ?_) (fun p hp => Nat.lt_of_lt_of_le (Heap.lt_size (N p hp).1) hD) hI
    rcases List.mem_cons.mp hp with rfl | hp
    · refine ⟨hg, fun e => absurd F.ns.lt (Nat.not_lt.mpr (e ▸ hD)), ?_⟩
      cases e : h₀.get? D with
      | none => rfl
      | some o => exact absurd (Heap.lt_size (F.keep _ _ e)) (Nat.not_lt.mpr hD)
    · exact (N.grown hk') p hp
end
end Mine
end
section -- Gram
open PySem PySem.W PySem.Calls PyProof.Rows PyProof.Rows.LCg
namespace Mine

theorem add_to {prog : Program} {w : World} {A : Around} {E : Value → Shared → Prop} {s : Shared} {a b c : Int} {t u : Tok} {Q : Value → Shared → Prop} (e : a + b = c) (h : Q (.int c s.toks) { s with toks := s.toks + 1 }) :
    wpAny (model prog w) A (binaryOp .Add (.int a t) (.int b u)) Q E s := by subst e; exact add_int h
theorem item_written {prog : Program} {w : World} {A : Around} {E : Value → Shared → Prop} {s : Shared} {value slice : PySem.Expr} {l : Addr} {vs : List Value} {k : Int} {u : Tok} {v : Value} {Q : Value → Shared → Prop}
    (hl : s.heap.IsList l vs.toArray) (h0 : 0 ≤ k) (hhi : k < 2 ^ 63) (hx : vs[k.toNat]? = some v) (h : Q v s)
    (hs : subscripted slice false (.ref l) (.int k u) = operate [.ref l, .int k u] (getItem (.ref l) (.int k u))) : wpAny (model prog w) A (subscriptTail value slice (.ref l) (.int k u)) Q E s :=
  tail_any hl.typeIs slot_list_getitem.lookup (wpAny_getItem_list hl h0 hhi (by simpa using hx) h) hs

/-- two addresses that differ (kept out of omega's sight) -/
structure Apart (a b : Nat) : Prop where
  ne : a ≠ b
theorem Apart.symm {a b : Nat} (h : Apart a b) : Apart b a := ⟨h.ne.symm⟩

abbrev tupOf (vs : List Value) : Obj := { cls := .type "tuple", data := .seq vs.toArray }

inductive GramPost (news : List (Addr × Obj)) (s1 l s2 : Int) (v : Value) (news' : List (Addr × Obj)) : Prop
  | mk (T sz lo l0 l1 : Addr) (t1 t2 t3 t4 : Tok) (n1 n2 n3 n4 : Nat) (hv : v = .ref T)
    (hn : news' = (T, tupOf [.ref sz, .ref lo]) :: (sz, listOf #[.int 1 t1, .int s1 t2, .int s2 t3] n1) :: (lo, listOf #[.ref l0, .ref l1] n2) :: (l0, listOf #[] n3) :: (l1, listOf #[.int l t4] n4) :: news)
    (b1 : AllLt sz news) (b2 : AllLt lo news) (b3 : AllLt l0 news) (b4 : AllLt l1 news) (x1 : Apart sz lo) (x2 : Apart sz l0) (x3 : Apart sz l1) (x4 : Apart lo l0) (x5 : Apart lo l1) (x6 : Apart l0 l1) : GramPost news s1 l s2 v news'
theorem GramPost.of {news : List (Addr × Obj)} {s1 l s2 : Int} {h₀ h : Heap} {L : Addr} {all : List (Addr × Obj)} {T sz lo l0 l1 : Addr} {t1 t2 t3 t4 : Tok} {n1 n2 n3 n4 : Nat} {m : Str → Option Value} {s : Shared} {tk : Nat} {Q : Value → Shared → Prop}
    (N : News h₀ L h all) (F : Fr h₀ L h m)
    (ret : ∀ v news' h' tk', Fr h₀ L h' m → News h₀ L h' news' → GramPost news s1 l s2 v news' → Q v { s with heap := h', toks := tk' })
    (hT : (T, tupOf [.ref sz, .ref lo]) ∈ all) (h1 : (sz, listOf #[.int 1 t1, .int s1 t2, .int s2 t3] n1) ∈ all) (h2 : (lo, listOf #[.ref l0, .ref l1] n2) ∈ all) (h3 : (l0, listOf #[] n3) ∈ all) (h4 : (l1, listOf #[.int l t4] n4) ∈ all)
    (hn : ∀ p ∈ news, p ∈ all) (b1 : AllLt sz news) (b2 : AllLt lo news) (b3 : AllLt l0 news) (b4 : AllLt l1 news) (x1 : Apart sz lo) (x2 : Apart sz l0) (x3 : Apart sz l1) (x4 : Apart lo l0) (x5 : Apart lo l1) (x6 : Apart l0 l1) :
    Q (.ref T) { s with heap := h, toks := tk } :=
  ret (.ref T) _ h tk F (fun p hp => by
    rcases List.mem_cons.mp hp with rfl | hp
    · exact N _ hT
    rcases List.mem_cons.mp hp with rfl | hp
    · exact N _ h1
    rcases List.mem_cons.mp hp with rfl | hp
    · exact N _ h2
    rcases List.mem_cons.mp hp with rfl | hp
    · exact N _ h3
    rcases List.mem_cons.mp hp with rfl | hp
    · exact N _ h4
    exact N _ (hn p hp)) ⟨T, sz, lo, l0, l1, t1, t2, t3, t4, n1, n2, n3, n4, rfl, rfl, b1, b2, b3, b4, x1, x2, x3, x4, x5, x6⟩

local macro_rules | `(tactic| k_lt $h) => `(tactic| skip)
local macro_rules | `(tactic| k_ne) => `(tactic| (refine neN ?_; (try dsimp only); first | exact Nat.ne_of_lt (lt_all (by assumption) (by k_mem)) | exact Nat.ne_of_gt (lt_all (by assumption) (by k_mem)) | exact Nat.ne_of_lt (Nat.lt_succ_of_lt (lt_all (by assumption) (by k_mem))) | exact Nat.ne_of_gt (Nat.lt_succ_of_lt (lt_all (by assumption) (by k_mem))) | omega))
local macro_rules | `(tactic| walk_at "binaryOp Add int int") => `(tactic| (k_here; (refine' add_to ?e ?_; (case e => ((simp only [Int.reduceAdd]); exact rfl)))))
local macro_rules | `(tactic| walk_at "subscriptTail") => `(tactic| (k_here; (with_reducible show wpAny _ _ (subscriptTail _ _ (Value.ref _) (Value.int _ _)) _ _ _); k_dflt ((refine' item_written ?k1 ?k2 ?k3 ?k4 ?_ ?k6); (case k1 => is_list); (case k2 => decide); (case k3 => decide); (case k4 => rfl); (case k6 => with_unfolding_all rfl); k_whole; (try dsimp only))))
local macro_rules | `(tactic| walk_at "subscriptTail Name BinOp ref int") => `(tactic| walk_at "subscriptTail")
local macro_rules | `(tactic| walk_at "subscriptTail Name Name ref int") => `(tactic| walk_at "subscriptTail")
local macro_rules | `(tactic| walk_at "call ref") => `(tactic| (k_here; (with_reducible show wpAny _ _ (call (Value.ref 39) [Value.ref _, Value.ref _]) _ _ _); refine holdR ?_))
set_option maxRecDepth 100000 in
set_option maxHeartbeats 8000000 in
theorem gram_c (w : World) (mean : ExcName → Option Value) (mg mb : Str → Option Value) (a1 a2 a3 fl f0 f1 am : Addr) (o1 o2 o3 om : Obj) (n0 n1 : Nat) (v0 v1 : List Value) (xs ys : List Int) (hi : IntsAre v0 xs) (hj : IntsAre v1 ys) (hlen : xs.length = ys.length) (hsz : xs.length ≤ sizeLine) (hsz2 : ys.length ≤ sizeLine) (hsm : xs.length < 2 ^ 63) (hsm2 : ys.length < 2 ^ 63) (hbd : ∀ x ∈ xs, -2 ^ 64 < x ∧ x < 2 ^ 64) (hbd2 : ∀ x ∈ ys, -2 ^ 64 < x ∧ x < 2 ^ 64)
    (hp1 : 0 < dot xs xs) (hq1 : dot xs xs < 2 ^ 64) (hq2 : -2 ^ 64 < dot ys xs) (hq3 : dot ys xs < 2 ^ 64) (hp2 : 0 < dot xs xs * dot ys ys - dot ys xs * dot ys xs) :
   Ctr w mean mg mb 58 [(a1, o1), (a2, o2), (a3, o3), (fl, lst [.ref f0, .ref f1]), (f1, listOf v1.toArray n1), (f0, listOf v0.toArray n0), (am, om)] [.ref fl] 8
     (GramPost [(a1, o1), (a2, o2), (a3, o3), (fl, lst [.ref f0, .ref f1]), (f1, listOf v1.toArray n1), (f0, listOf v0.toArray n0), (am, om)] (dot xs xs) (dot ys xs) (Int.fdiv (dot xs xs * dot ys ys - dot ys xs * dot ys xs) 1)) := by
  have hp3 : 0 < Int.fdiv (dot xs xs * dot ys ys - dot ys xs * dot ys xs) 1 := by rw [Int.fdiv_one]; exact hp2
  unfold Ctr TP KK PR
  w_top off
  k_fill
  intro dp un gd cn cs a ccd cl outer A₀ base h₀ L m s Q E B F X N T hk hd hu hret
  refine wpAny_call ?_
  k_dflt cell_enter
  k_steps
  unfold HoldR
  with_reducible (with_reducible show wpAny _ _ (call (Value.ref 39) [Value.ref _, Value.ref _]) _ _ _); (k_dflt ((refine' row_dot_use ?k1Za ?k2Za ?k3Za ?k4Za ?k5Za ?kKZa ?kdZa ?kuZa ?kaZa ?kbZa ?kiZa ?kjZa ?klZa ?ksZa ?kmZa ?kbdZa ?_); (case k1Za => k_asm); (case k2Za => k_asm); (case k3Za => k_asm); (case k4Za => k_asm); (case k5Za => k_asm); (case kKZa => first | exact rfl | assumption); (case kdZa => ktr_room); (case kuZa => ktr_units); (case kaZa => is_list); (case kbZa => is_list); (case kiZa => assumption); (case kjZa => assumption); (case klZa => first | rfl | assumption | exact Eq.symm (by assumption)); (case ksZa => assumption); (case kmZa => assumption); (case kbdZa => assumption); intro t9 h9 tk9 F9 N9; (try k_fold)))
  k_steps
  all_goals (try (exfalso; omega))
  unfold HoldR
  with_reducible (with_reducible show wpAny _ _ (call (Value.ref 39) [Value.ref _, Value.ref _]) _ _ _); (k_dflt ((refine' row_dot_use ?k1Zb ?k2Zb ?k3Zb ?k4Zb ?k5Zb ?kKZb ?kdZb ?kuZb ?kaZb ?kbZb ?kiZb ?kjZb ?klZb ?ksZb ?kmZb ?kbdZb ?_); (case k1Zb => k_asm); (case k2Zb => k_asm); (case k3Zb => k_asm); (case k4Zb => k_asm); (case k5Zb => k_asm); (case kKZb => first | exact rfl | assumption); (case kdZb => ktr_room); (case kuZb => ktr_units); (case kaZb => is_list); (case kbZb => is_list); (case kiZb => assumption); (case kjZb => assumption); (case klZb => first | rfl | assumption | exact Eq.symm (by assumption)); (case ksZb => assumption); (case kmZb => assumption); (case kbdZb => assumption); intro t9 h9 tk9 F9 N9; (try k_fold)))
  k_steps
  all_goals (try (exfalso; omega))
  unfold HoldR
  with_reducible (with_reducible show wpAny _ _ (call (Value.ref 39) [Value.ref _, Value.ref _]) _ _ _); (k_dflt ((refine' row_dot_use ?k1Zc ?k2Zc ?k3Zc ?k4Zc ?k5Zc ?kKZc ?kdZc ?kuZc ?kaZc ?kbZc ?kiZc ?kjZc ?klZc ?ksZc ?kmZc ?kbdZc ?_); (case k1Zc => k_asm); (case k2Zc => k_asm); (case k3Zc => k_asm); (case k4Zc => k_asm); (case k5Zc => k_asm); (case kKZc => first | exact rfl | assumption); (case kdZc => ktr_room); (case kuZc => ktr_units); (case kaZc => is_list); (case kbZc => is_list); (case kiZc => assumption); (case kjZc => assumption); (case klZc => first | rfl | assumption | exact Eq.symm (by assumption)); (case ksZc => assumption); (case kmZc => assumption); (case kbdZc => assumption); intro t9 h9 tk9 F9 N9; (try k_fold)))
  k_steps
  all_goals (try (exfalso; omega))
  rename News h₀ L _ _ => lN
  rename Fr h₀ L _ _ => lF
  refine' GramPost.of lN lF hret ?hT ?h1 ?h2 ?h3 ?h4 ?hn ?b1 ?b2 ?b3 ?b4 ?x1 ?x2 ?x3 ?x4 ?x5 ?x6
  case hT => k_mem
  case h1 => k_mem
  case h2 => k_mem
  case h3 => k_mem
  case h4 => k_mem
  case hn => (repeat' (first | exact List.forall_mem_nil _ | refine List.forall_mem_cons.mpr ⟨by k_mem, ?_⟩))
  case b1 => (repeat' (first | exact True.intro | refine And.intro ?_ ?_ | (dsimp only; first | exact lt_all (by assumption) (by k_dflt k_mem) | omega)))
  case b2 => (repeat' (first | exact True.intro | refine And.intro ?_ ?_ | (dsimp only; first | exact lt_all (by assumption) (by k_dflt k_mem) | omega)))
  case b3 => (repeat' (first | exact True.intro | refine And.intro ?_ ?_ | (dsimp only; first | exact lt_all (by assumption) (by k_dflt k_mem) | omega)))
  case b4 => (repeat' (first | exact True.intro | refine And.intro ?_ ?_ | (dsimp only; first | exact lt_all (by assumption) (by k_dflt k_mem) | omega)))
  case x1 => first | exact ⟨Nat.ne_of_lt (lt_all (by assumption) (by k_dflt k_mem))⟩ | exact ⟨Nat.ne_of_gt (lt_all (by assumption) (by k_dflt k_mem))⟩ | exact ⟨by omega⟩
  case x2 => first | exact ⟨Nat.ne_of_lt (lt_all (by assumption) (by k_dflt k_mem))⟩ | exact ⟨Nat.ne_of_gt (lt_all (by assumption) (by k_dflt k_mem))⟩ | exact ⟨by omega⟩
  case x3 => first | exact ⟨Nat.ne_of_lt (lt_all (by assumption) (by k_dflt k_mem))⟩ | exact ⟨Nat.ne_of_gt (lt_all (by assumption) (by k_dflt k_mem))⟩ | exact ⟨by omega⟩
  case x4 => first | exact ⟨Nat.ne_of_lt (lt_all (by assumption) (by k_dflt k_mem))⟩ | exact ⟨Nat.ne_of_gt (lt_all (by assumption) (by k_dflt k_mem))⟩ | exact ⟨by omega⟩
  case x5 => first | exact ⟨Nat.ne_of_lt (lt_all (by assumption) (by k_dflt k_mem))⟩ | exact ⟨Nat.ne_of_gt (lt_all (by assumption) (by k_dflt k_mem))⟩ | exact ⟨by omega⟩
  case x6 => first | exact ⟨Nat.ne_of_lt (lt_all (by assumption) (by k_dflt k_mem))⟩ | exact ⟨Nat.ne_of_gt (lt_all (by assumption) (by k_dflt k_mem))⟩ | exact ⟨by omega⟩
end Mine
end
section -- Lll2
open PySem PySem.W PySem.Calls PyProof.Rows PyProof.Rows.LCg
namespace Mine
theorem allLt_all {d : Addr} : ∀ {l : List (Addr × Obj)}, AllLt d l → ∀ p ∈ l, p.1 < d
  | [], _, _, h => nomatch h
  | _ :: _, x, p, h => by
    rcases List.mem_cons.mp h with rfl | h
    · exact x.1
    · exact allLt_all x.2 p h
section
variable {w : World} {mean : ExcName → Option Value} {mg mb : Str → Option Value} {dp un : Nat} {gd : Option (List Code)} {cn : Str} {cs : Scope} {a : Addr} {ccd : Value} {cl : List (Str × Addr)} {outer : List Env} {A₀ : Around} {base h₀ : Heap} {L : Addr} {m : Str → Option Value} {s : Shared} {Q E : Value → Shared → Prop}
theorem gram_use {a1 a2 a3 fl f0 f1 am : Addr} {o1 o2 o3 om : Obj} {n0 n1 : Nat} {v0 v1 : List Value} {xs ys : List Int} (B : Below A₀ base outer h₀) (F : Fr h₀ L s.heap m)
    (N : News h₀ L s.heap [(a1, o1), (a2, o2), (a3, o3), (fl, lst [.ref f0, .ref f1]), (f1, listOf v1.toArray n1), (f0, listOf v0.toArray n0), (am, om)]) (X : (hd.heap_39 w.params).In h₀) (T : Top hd.view_39 (looseW hd.view_39 []) mean mg mb h₀) (hk : cs.kind = .function)
    (hd : dp + 8 < recursionLimit) (hu : un + 8 * 8 < cLine) (hi : IntsAre v0 xs) (hj : IntsAre v1 ys) (hlen : xs.length = ys.length) (hsz : xs.length ≤ sizeLine) (hsz2 : ys.length ≤ sizeLine) (hsm : xs.length < 2 ^ 63) (hsm2 : ys.length < 2 ^ 63) (hbd : ∀ x ∈ xs, -2 ^ 64 < x ∧ x < 2 ^ 64) (hbd2 : ∀ x ∈ ys, -2 ^ 64 < x ∧ x < 2 ^ 64)
    (hp1 : 0 < dot xs xs) (hq1 : dot xs xs < 2 ^ 64) (hq2 : -2 ^ 64 < dot ys xs) (hq3 : dot ys xs < 2 ^ 64) (hp2 : 0 < dot xs xs * dot ys ys - dot ys xs * dot ys xs)
    (ret : ∀ (T sz lo l0 l1 : Addr) (t1 t2 t3 t4 : Tok) (n1' n2' n3' n4' : Nat) h' tk', Fr h₀ L h' m →
      News h₀ L h' [(T, tupOf [.ref sz, .ref lo]), (sz, listOf #[.int 1 t1, .int (dot xs xs) t2, .int (dot xs xs * dot ys ys - dot ys xs * dot ys xs) t3] n1'), (lo, listOf #[.ref l0, .ref l1] n2'), (l0, listOf #[] n3'), (l1, listOf #[.int (dot ys xs) t4] n4'),
        (a1, o1), (a2, o2), (a3, o3), (fl, lst [.ref f0, .ref f1]), (f1, listOf v1.toArray n1), (f0, listOf v0.toArray n0), (am, om)] →
      (∀ p ∈ ([(a1, o1), (a2, o2), (a3, o3), (fl, lst [.ref f0, .ref f1]), (f1, listOf v1.toArray n1), (f0, listOf v0.toArray n0), (am, om)] : List (Addr × Obj)), p.1 < sz) → (∀ p ∈ ([(a1, o1), (a2, o2), (a3, o3), (fl, lst [.ref f0, .ref f1]), (f1, listOf v1.toArray n1), (f0, listOf v0.toArray n0), (am, om)] : List (Addr × Obj)), p.1 < lo) →
      (∀ p ∈ ([(a1, o1), (a2, o2), (a3, o3), (fl, lst [.ref f0, .ref f1]), (f1, listOf v1.toArray n1), (f0, listOf v0.toArray n0), (am, om)] : List (Addr × Obj)), p.1 < l0) → (∀ p ∈ ([(a1, o1), (a2, o2), (a3, o3), (fl, lst [.ref f0, .ref f1]), (f1, listOf v1.toArray n1), (f0, listOf v0.toArray n0), (am, om)] : List (Addr × Obj)), p.1 < l1) →
      Apart sz lo → Apart sz l0 → Apart sz l1 → Apart lo l0 → Apart lo l1 → Apart l0 l1 → Q (.ref T) { s with heap := h', toks := tk' }) :
    wpAny (model PySem.Challenge.rw_sy0001_01.row.prog w) (ktrTop dp un gd cn cs L a ccd cl outer) (call (.ref 58) [.ref fl]) Q E s :=
  (gram_c w mean mg mb a1 a2 a3 fl f0 f1 am o1 o2 o3 om n0 n1 v0 v1 xs ys hi hj hlen hsz hsz2 hsm hsm2 hbd hbd2 hp1 hq1 hq2 hq3 hp2) dp un gd cn cs a ccd cl outer A₀ base h₀ L m s Q E B F X N T hk hd hu fun v news' h' tk' F' N' hp => by
    obtain ⟨T, sz, lo, l0, l1, t1, t2, t3, t4, n1', n2', n3', n4', rfl, rfl, b1, b2, b3, b4, x1, x2, x3, x4, x5, x6⟩ := hp
    rw [Int.fdiv_one] at N'
    exact ret T sz lo l0 l1 t1 t2 t3 t4 n1' n2' n3' n4' h' tk' F' N' (allLt_all b1) (allLt_all b2) (allLt_all b3) (allLt_all b4) x1 x2 x3 x4 x5 x6
end

def Aps (a : Nat) : List Nat → Prop
  | [] => True
  | b :: r => Apart a b ∧ Aps a r

structure LS where
  dn : Bool
  ta : Tok
  r0 : Addr
  r1 : Addr
  c0 : Addr
  c1 : Addr
  l0 : Addr
  l1 : Addr
  w0 : List Value
  w1 : List Value
  u0 : List Value
  u1 : List Value
  b0 : List Int
  b1 : List Int
  a0 : List Int
  a1 : List Int
  nf : Nat
  ng : Nat
  ns : Nat
  nl : Nat
  n0 : Nat
  n1 : Nat
  n2 : Nat
  n3 : Nat
  n4 : Nat
  n5 : Nat
  s1 : Int
  l : Int
  t1 : Tok
  tl : Tok

abbrev LS.led (fl cg sz lo am : Addr) (om : Obj) (s2 : Int) (t0 t2 : Tok) (c : LS) : List (Addr × Obj) :=
  [(fl, listOf #[.ref c.r0, .ref c.r1] c.nf), (c.r0, listOf c.w0.toArray c.n0), (c.r1, listOf c.w1.toArray c.n1), (cg, listOf #[.ref c.c0, .ref c.c1] c.ng), (c.c0, listOf c.u0.toArray c.n2), (c.c1, listOf c.u1.toArray c.n3),
    (sz, listOf #[.int 1 t0, .int c.s1 c.t1, .int s2 t2] c.ns), (lo, listOf #[.ref c.l0, .ref c.l1] c.nl), (c.l0, listOf #[] c.n4), (c.l1, listOf #[.int c.l c.tl] c.n5), (am, om)]
abbrev LAp (fl cg sz lo am r0 r1 c0 c1 l0 l1 : Addr) : Prop :=
  Aps fl [r0, r1, cg, c0, c1, sz, lo, l0, l1, am] ∧ Aps cg [r0, r1, c0, c1, sz, lo, l0, l1, am] ∧ Aps sz [r0, r1, c0, c1, lo, l0, l1, am] ∧ Aps lo [r0, r1, c0, c1, l0, l1, am] ∧ Aps l1 [r0, r1, c0, c1, l0, am]
abbrev LS.facts (fl cg sz lo am : Addr) (c : LS) : Prop :=
  IntsAre c.w0 c.b0 ∧ IntsAre c.w1 c.b1 ∧ IntsAre c.u0 c.a0 ∧ IntsAre c.u1 c.a1 ∧ LAp fl cg sz lo am c.r0 c.r1 c.c0 c.c1 c.l0 c.l1
abbrev LRed (s1 s2 l : Int) : Prop := -s1 ≤ 2 * l ∧ 2 * l ≤ s1 ∧ s1 * s1 ≤ s2 + l * l
abbrev LS.word (xs ys : List Int) (M s2 : Int) (c : LS) : Prop := LInv xs ys M s2 c.b0 c.b1 c.a0 c.a1 c.s1 c.l ∧ (c.dn = true → LRed c.s1 s2 c.l)
abbrev LS.meas (c : LS) : Nat := if c.dn = true then 0 else c.s1.toNat + 1
abbrev LS.names (c : LS) : List (Str × Value) := [(Str.ofString "at", .int (if c.dn = true then 2 else 1) c.ta)]

theorem sub_nil {α : Type} {b : List α} : ∀ p ∈ ([] : List α), p ∈ b := fun _ h => nomatch h
theorem sub_cons {α : Type} {x : α} {a b : List α} (h : x ∈ b) (r : ∀ p ∈ a, p ∈ b) : ∀ p ∈ x :: a, p ∈ b := fun p hp => by
  rcases List.mem_cons.mp hp with rfl | hp
  · exact h
  · exact r p hp
section
variable {prog : Program} {w : World} {A : Around} {E : Value → Shared → Prop} {Q : Flow → Shared → Prop} {s : Shared} {env : Env} {h₀ : Heap} {L : Addr} {fl cg sz lo am : Addr} {om : Obj} {s2 : Int} {t0 t2 : Tok} {xs ys : List Int} {M : Int}

abbrev LPost (h₀ : Heap) (L : Addr) (s : Shared) (fl cg sz lo am : Addr) (om : Obj) (s2 : Int) (t0 t2 : Tok) (xs ys : List Int) (M : Int) (m₀ : Str → Option Value) (Q : Flow → Shared → Prop) (c : LS) : Flow → Shared → Prop :=
  KswPost h₀ L s (LS.led fl cg sz lo am om s2 t0 t2) LS.names (LS.facts fl cg sz lo am) [Str.ofString "other"] m₀ (LS.word xs ys M s2) LS.meas Q c

theorem lll_while {test : PySem.Expr} {body : List Stmt} {pos : Pos} {m₀ : Str → Option Value} {all : List (Addr × Obj)} {ta : Tok} {r0 r1 c0 c1 l0 l1 : Addr} {w0 w1 u0 u1 : List Value} {b0 b1 a0 a1 : List Int} {nf ng ns nl n0 n1 n2 n3 n4 n5 : Nat} {s1 l : Int} {t1 tl : Tok}
    (F : Fr h₀ L s.heap m₀) (N : News h₀ L s.heap all) (g1 : m₀ (Str.ofString "found") = some (.ref fl)) (g2 : m₀ (Str.ofString "changes") = some (.ref cg)) (g3 : m₀ (Str.ofString "sizes") = some (.ref sz)) (g4 : m₀ (Str.ofString "lower") = some (.ref lo)) (g5 : env.cells.lookup (Str.ofString "many") = some am) (e1 : (fl, listOf #[.ref r0, .ref r1] nf) ∈ all) (e2 : (r0, listOf w0.toArray n0) ∈ all) (e3 : (r1, listOf w1.toArray n1) ∈ all) (e4 : (cg, listOf #[.ref c0, .ref c1] ng) ∈ all) (e5 : (c0, listOf u0.toArray n2) ∈ all) (e6 : (c1, listOf u1.toArray n3) ∈ all)
    (e7 : (sz, listOf #[.int 1 t0, .int s1 t1, .int s2 t2] ns) ∈ all) (e8 : (lo, listOf #[.ref l0, .ref l1] nl) ∈ all) (e9 : (l0, listOf #[] n4) ∈ all) (e10 : (l1, listOf #[.int l tl] n5) ∈ all) (e11 : (am, om) ∈ all)
    (hat : m₀ (Str.ofString "at") = some (.int 1 ta)) (i0 : IntsAre w0 b0) (i1 : IntsAre w1 b1) (i2 : IntsAre u0 a0) (i3 : IntsAre u1 a1) (ap : LAp fl cg sz lo am r0 r1 c0 c1 l0 l1) (inv : LInv xs ys M s2 b0 b1 a0 a1 s1 l)
    (turn : ∀ (ta : Tok) (r0 r1 c0 c1 l0 l1 : Addr) (w0 w1 u0 u1 : List Value) (b0 b1 a0 a1 : List Int) (nf ng ns nl n0 n1 n2 n3 n4 n5 : Nat) (s1 l : Int) (t1 tl : Tok) (u : Str → Option Value) h tk,
      IntsAre w0 b0 → IntsAre w1 b1 → IntsAre u0 a0 → IntsAre u1 a1 → LAp fl cg sz lo am r0 r1 c0 c1 l0 l1 → LInv xs ys M s2 b0 b1 a0 a1 s1 l →
      Fr h₀ L h (fun z => if z = Str.ofString "at" then some (.int 1 ta) else if [Str.ofString "other"].contains z then u z else m₀ z) →
      News h₀ L h [(fl, listOf #[.ref r0, .ref r1] nf), (r0, listOf w0.toArray n0), (r1, listOf w1.toArray n1), (cg, listOf #[.ref c0, .ref c1] ng), (c0, listOf u0.toArray n2), (c1, listOf u1.toArray n3),
        (sz, listOf #[.int 1 t0, .int s1 t1, .int s2 t2] ns), (lo, listOf #[.ref l0, .ref l1] nl), (l0, listOf #[] n4), (l1, listOf #[.int l tl] n5), (am, om)] →
      wpAny (model prog w) A (isTrue test env (eval test env)) (fun b s₂ =>
        if b = true then wpAny (model prog w) A (execs body env) (LPost h₀ L s fl cg sz lo am om s2 t0 t2 xs ys M m₀ Q ⟨false, ta, r0, r1, c0, c1, l0, l1, w0, w1, u0, u1, b0, b1, a0, a1, nf, ng, ns, nl, n0, n1, n2, n3, n4, n5, s1, l, t1, tl⟩) E s₂ else Q .next s₂) E { s with heap := h, toks := tk })
    (leave : ∀ (ta : Tok) (r0 r1 c0 c1 l0 l1 : Addr) (w0 w1 u0 u1 : List Value) (b0 b1 a0 a1 : List Int) (nf ng ns nl n0 n1 n2 n3 n4 n5 : Nat) (s1 l : Int) (t1 tl : Tok) (u : Str → Option Value) h tk (Q' : Flow → Shared → Prop),
      IntsAre w0 b0 → IntsAre w1 b1 → IntsAre u0 a0 → IntsAre u1 a1 → LInv xs ys M s2 b0 b1 a0 a1 s1 l → LRed s1 s2 l →
      Fr h₀ L h (fun z => if z = Str.ofString "at" then some (.int 2 ta) else if [Str.ofString "other"].contains z then u z else m₀ z) →
      News h₀ L h [(fl, listOf #[.ref r0, .ref r1] nf), (r0, listOf w0.toArray n0), (r1, listOf w1.toArray n1), (cg, listOf #[.ref c0, .ref c1] ng), (c0, listOf u0.toArray n2), (c1, listOf u1.toArray n3),
        (sz, listOf #[.int 1 t0, .int s1 t1, .int s2 t2] ns), (lo, listOf #[.ref l0, .ref l1] nl), (l0, listOf #[] n4), (l1, listOf #[.int l tl] n5), (am, om)] →
      wpAny (model prog w) A (isTrue test env (eval test env)) (fun b s₂ =>
        if b = true then wpAny (model prog w) A (execs body env) Q' E s₂ else Q .next s₂) E { s with heap := h, toks := tk })
    (hE : PassesOwn (model prog w) A env E) :
    wpAny (model prog w) A (exec (.While test body [] pos) env) Q E s := by
  refine ksw_while (LS.led fl cg sz lo am om s2 t0 t2) LS.names (LS.facts fl cg sz lo am) [Str.ofString "other"] (LS.word xs ys M s2) LS.meas ⟨false, ta, r0, r1, c0, c1, l0, l1, w0, w1, u0, u1, b0, b1, a0, a1, nf, ng, ns, nl, n0, n1, n2, n3, n4, n5, s1, l, t1, tl⟩ F ?_ ⟨i0, i1, i2, i3, ap⟩ ?_ ⟨inv, fun q => by cases q⟩ ?_ hE
  · exact fun p hp => N p (sub_cons e1 (sub_cons e2 (sub_cons e3 (sub_cons e4 (sub_cons e5 (sub_cons e6 (sub_cons e7 (sub_cons e8 (sub_cons e9 (sub_cons e10 (sub_cons e11 sub_nil)))))))))) p hp)
  · intro p hp
    rw [List.mem_singleton.mp hp]
    exact hat
  · rintro ⟨dn, ta, r0, r1, c0, c1, l0, l1, w0, w1, u0, u1, b0, b1, a0, a1, nf, ng, ns, nl, n0, n1, n2, n3, n4, n5, s1, l, t1, tl⟩ u h tk ⟨i0, i1, i2, i3, ap⟩ ⟨inv, red⟩ F' N'
    cases dn with
    | false => exact turn ta r0 r1 c0 c1 l0 l1 w0 w1 u0 u1 b0 b1 a0 a1 nf ng ns nl n0 n1 n2 n3 n4 n5 s1 l t1 tl u h tk i0 i1 i2 i3 ap inv F' N'
    | true => exact leave ta r0 r1 c0 c1 l0 l1 w0 w1 u0 u1 b0 b1 a0 a1 nf ng ns nl n0 n1 n2 n3 n4 n5 s1 l t1 tl u h tk _ i0 i1 i2 i3 inv (red rfl) F' N'

theorem lll_end {c : LS} {m₀ m' : Str → Option Value} {all : List (Addr × Obj)} {h' : Heap} {tk : Nat} {dn : Bool} {ta : Tok} {r0 r1 c0 c1 l0 l1 : Addr} {w0 w1 u0 u1 : List Value} {b0 b1 a0 a1 : List Int} {nf ng ns nl n0 n1 n2 n3 n4 n5 : Nat} {s1 l : Int} {t1 tl : Tok}
    (F : Fr h₀ L h' m') (N : News h₀ L h' all) (e1 : (fl, listOf #[.ref r0, .ref r1] nf) ∈ all) (e2 : (r0, listOf w0.toArray n0) ∈ all) (e3 : (r1, listOf w1.toArray n1) ∈ all) (e4 : (cg, listOf #[.ref c0, .ref c1] ng) ∈ all) (e5 : (c0, listOf u0.toArray n2) ∈ all) (e6 : (c1, listOf u1.toArray n3) ∈ all)
    (e7 : (sz, listOf #[.int 1 t0, .int s1 t1, .int s2 t2] ns) ∈ all) (e8 : (lo, listOf #[.ref l0, .ref l1] nl) ∈ all) (e9 : (l0, listOf #[] n4) ∈ all) (e10 : (l1, listOf #[.int l tl] n5) ∈ all) (e11 : (am, om) ∈ all)
    (hat : m' (Str.ofString "at") = some (.int (if dn = true then 2 else 1) ta)) (hr : ∀ z, z ≠ Str.ofString "at" → [Str.ofString "other"].contains z = false → m' z = m₀ z) (i0 : IntsAre w0 b0) (i1 : IntsAre w1 b1) (i2 : IntsAre u0 a0) (i3 : IntsAre u1 a1) (ap : LAp fl cg sz lo am r0 r1 c0 c1 l0 l1)
    (inv : LInv xs ys M s2 b0 b1 a0 a1 s1 l ∧ (dn = true → LRed s1 s2 l) ∧ (if dn = true then 0 else s1.toNat + 1) < c.meas) :
    KswEnd h₀ L s (LS.led fl cg sz lo am om s2 t0 t2) LS.names (LS.facts fl cg sz lo am) [Str.ofString "other"] m₀ (LS.word xs ys M s2) LS.meas c { s with heap := h', toks := tk } := by
  refine ksw_end ⟨dn, ta, r0, r1, c0, c1, l0, l1, w0, w1, u0, u1, b0, b1, a0, a1, nf, ng, ns, nl, n0, n1, n2, n3, n4, n5, s1, l, t1, tl⟩ F N ?_ ⟨i0, i1, i2, i3, ap⟩ ?_ ?_ ⟨inv.1, inv.2.1⟩ inv.2.2
  · exact sub_cons e1 (sub_cons e2 (sub_cons e3 (sub_cons e4 (sub_cons e5 (sub_cons e6 (sub_cons e7 (sub_cons e8 (sub_cons e9 (sub_cons e10 (sub_cons e11 sub_nil))))))))))
  · intro p hp
    rw [List.mem_singleton.mp hp]
    exact hat
  · intro z hz
    exact hr z (hz _ (List.mem_singleton.mpr rfl))
end
end Mine
end
section -- Short
open PySem PySem.W PySem.Calls PyProof.Rows PyProof.Rows.LCg
namespace Mine
def HoldS (P : Prop) : Prop := P
theorem holdS {P : Prop} (h : HoldS P) : P := h
theorem sub_to {prog : Program} {w : World} {A : Around} {E : Value → Shared → Prop} {s : Shared} {a b c : Int} {t u : Tok} {Q : Value → Shared → Prop} (e : a - b = c) (h : Q (.int c s.toks) { s with toks := s.toks + 1 }) :
    wpAny (model prog w) A (binaryOp .Sub (.int a t) (.int b u)) Q E s := by subst e; exact sub_int h
theorem nf_zero {l s k : Int} (nf : -s ≤ 2 * (l - k * s) ∧ 2 * (l - k * s) < s) (h : k = 0) : -s ≤ 2 * l ∧ 2 * l < s := by
  subst h; simpa using nf
/-- the ledger of lll's loop -/
abbrev ShLed (fl cg sz lo am r0 r1 c0 c1 l0 l1 : Addr) (om : Obj) (w0 w1 u0 u1 : List Value) (nf ng ns nl n0 n1 n2 n3 n4 n5 : Nat) (s1 l s2 : Int) (t0 t1 t2 tl : Tok) : List (Addr × Obj) :=
  [(fl, listOf #[.ref r0, .ref r1] nf), (r0, listOf w0.toArray n0), (r1, listOf w1.toArray n1), (cg, listOf #[.ref c0, .ref c1] ng), (c0, listOf u0.toArray n2), (c1, listOf u1.toArray n3), (sz, listOf #[.int 1 t0, .int s1 t1, .int s2 t2] ns), (lo, listOf #[.ref l0, .ref l1] nl), (l0, listOf #[] n4), (l1, listOf #[.int l tl] n5), (am, om)]
/-- what shorten_row leaves -/
inductive ShPost (fl cg sz lo am r0 c0 l0 l1 : Addr) (om : Obj) (w0 u0 : List Value) (b0 a0 : List Int) (ns nl n0 n2 n4 : Nat) (s1 s2 : Int) (t0 t1 t2 : Tok) (xs ys : List Int) (M : Int) (v : Value) (news' : List (Addr × Obj)) : Prop
  | mk (r1 c1 : Addr) (w1 u1 : List Value) (b1 a1 : List Int) (nf ng n1 n3 n5 : Nat) (l : Int) (tl : Tok) (hv : v = .none) (hn : news' = ShLed fl cg sz lo am r0 r1 c0 c1 l0 l1 om w0 w1 u0 u1 nf ng ns nl n0 n1 n2 n3 n4 n5 s1 l s2 t0 t1 t2 tl)
    (i1 : IntsAre w1 b1) (i3 : IntsAre u1 a1) (ap : LAp fl cg sz lo am r0 r1 c0 c1 l0 l1) (inv : LInv xs ys M s2 b0 b1 a0 a1 s1 l) (z1 : -s1 ≤ 2 * l) (z2 : 2 * l < s1) : ShPost fl cg sz lo am r0 c0 l0 l1 om w0 u0 b0 a0 ns nl n0 n2 n4 s1 s2 t0 t1 t2 xs ys M v news'
theorem sh_ret {h₀ h' : Heap} {L : Addr} {m : Str → Option Value} {s : Shared} {Q : Value → Shared → Prop} {tk : Nat} {all : List (Addr × Obj)} {fl cg sz lo am r0 r1 c0 c1 l0 l1 : Addr} {om : Obj} {w0 w1 u0 u1 : List Value} {b0 b1 a0 a1 : List Int} {nf ng ns nl n0 n1 n2 n3 n4 n5 : Nat} {s1 l s2 : Int} {t0 t1 t2 tl : Tok} {xs ys : List Int} {M : Int}
    (hret : ∀ v news' h' tk', Fr h₀ L h' m → News h₀ L h' news' → ShPost fl cg sz lo am r0 c0 l0 l1 om w0 u0 b0 a0 ns nl n0 n2 n4 s1 s2 t0 t1 t2 xs ys M v news' → Q v { s with heap := h', toks := tk' })
    (F : Fr h₀ L h' m) (N : News h₀ L h' all) (e1 : (fl, listOf #[.ref r0, .ref r1] nf) ∈ all) (e2 : (r0, listOf w0.toArray n0) ∈ all) (e3 : (r1, listOf w1.toArray n1) ∈ all) (e4 : (cg, listOf #[.ref c0, .ref c1] ng) ∈ all) (e5 : (c0, listOf u0.toArray n2) ∈ all) (e6 : (c1, listOf u1.toArray n3) ∈ all)
    (e7 : (sz, listOf #[.int 1 t0, .int s1 t1, .int s2 t2] ns) ∈ all) (e8 : (lo, listOf #[.ref l0, .ref l1] nl) ∈ all) (e9 : (l0, listOf #[] n4) ∈ all) (e10 : (l1, listOf #[.int l tl] n5) ∈ all) (e11 : (am, om) ∈ all)
    (i1 : IntsAre w1 b1) (i3 : IntsAre u1 a1) (ap : LAp fl cg sz lo am r0 r1 c0 c1 l0 l1) (inv : LInv xs ys M s2 b0 b1 a0 a1 s1 l ∧ -s1 ≤ 2 * l ∧ 2 * l < s1) : Q .none { s with heap := h', toks := tk } := by
  exact hret _ _ _ _ F (fun p hp => N p (sub_cons e1 (sub_cons e2 (sub_cons e3 (sub_cons e4 (sub_cons e5 (sub_cons e6 (sub_cons e7 (sub_cons e8 (sub_cons e9 (sub_cons e10 (sub_cons e11 sub_nil)))))))))) p hp)) ⟨r1, c1, w1, u1, b1, a1, nf, ng, n1, n3, n5, l, tl, rfl, rfl, i1, i3, ap, inv.1, inv.2.1, inv.2.2⟩
local macro_rules | `(tactic| k_lt $h) => `(tactic| skip)
local macro_rules | `(tactic| k_ne) => `(tactic| first | exact Apart.ne (by assumption) | exact Apart.ne (Apart.symm (by assumption)) | (refine neN ?_; (try dsimp only); first | exact Nat.ne_of_lt (lt_all (by assumption) (by k_mem)) | exact Nat.ne_of_gt (lt_all (by assumption) (by k_mem)) | omega))
local macro_rules | `(tactic| walk_at "binaryOp Add int int") => `(tactic| (k_here; (refine' add_to ?e ?_; (case e => ((simp only [Int.reduceAdd]); exact rfl)))))
local macro_rules | `(tactic| walk_at "binaryOp Sub int int") => `(tactic| (k_here; (refine' sub_to ?e ?_; (case e => ((simp only [Int.reduceSub]); exact rfl)))))
local macro_rules | `(tactic| walk_at "subscriptTail") => `(tactic| (k_here; (with_reducible show wpAny _ _ (subscriptTail _ _ (Value.ref _) (Value.int _ _)) _ _ _); k_dflt ((refine' item_written ?k1 ?k2 ?k3 ?k4 ?_ ?k6); (case k1 => is_list); (case k2 => decide); (case k3 => decide); (case k4 => rfl); (case k6 => with_unfolding_all rfl); k_whole; (try dsimp only))))
local macro_rules | `(tactic| walk_at "subscriptTail Name BinOp ref int") => `(tactic| walk_at "subscriptTail")
local macro_rules | `(tactic| walk_at "subscriptTail Name Name ref int") => `(tactic| walk_at "subscriptTail")
local macro_rules | `(tactic| walk_at "call ref") => `(tactic| (k_here; refine holdS ?_))
set_option maxRecDepth 100000 in
set_option maxHeartbeats 8000000 in
theorem short_c (w : World) (mean : ExcName → Option Value) (mg mb : Str → Option Value) (fl cg sz lo am r0 r1 c0 c1 l0 l1 : Addr) (om : Obj) (w0 w1 u0 u1 : List Value) (b0 b1 a0 a1 : List Int) (nf ng ns nl n0 n1 n2 n3 n4 n5 : Nat) (s1 l s2 : Int) (t0 t1 t2 tl ta tb : Tok) (xs ys : List Int) (M : Int)
    (i0 : IntsAre w0 b0) (i1 : IntsAre w1 b1) (i2 : IntsAre u0 a0) (i3 : IntsAre u1 a1) (ap : LAp fl cg sz lo am r0 r1 c0 c1 l0 l1) (inv : LInv xs ys M s2 b0 b1 a0 a1 s1 l) (hM : M < 2 ^ 28) (hsz : xs.length ≤ sizeLine) (hsm : xs.length < 2 ^ 63)
    (hA : ∀ a : List Int, a.length = 2 → dot (lin a xs ys) (lin a xs ys) ≤ M → ∀ x ∈ a, -2 ^ 64 < x ∧ x < 2 ^ 64) :
   Ctr w mean mg mb 72 (ShLed fl cg sz lo am r0 r1 c0 c1 l0 l1 om w0 w1 u0 u1 nf ng ns nl n0 n1 n2 n3 n4 n5 s1 l s2 t0 t1 t2 tl) [.ref fl, .ref cg, .ref sz, .ref lo, .int 1 ta, .int 0 tb] 8
     (ShPost fl cg sz lo am r0 c0 l0 l1 om w0 u0 b0 a0 ns nl n0 n2 n4 s1 s2 t0 t1 t2 xs ys M) := by
  unfold Ctr TP KK PR
  w_top off
  k_fill
  intro dp un gd cn cs a ccd cl outer A₀ base h₀ L m s Q E B F X N T hk hd hu hret
  simp only [LAp, Aps, and_true] at ap
  repeat (rename _ ∧ _ => lz; obtain ⟨_, _⟩ := lz)
  have s_pos := inv.s_bound
  have l_bd := inv.l_bound
  have nf1 := nearest_facts (l := l) inv.p1 rfl
  have b_bd : ∀ x ∈ b0, -2 ^ 64 < x ∧ x < 2 ^ 64 := fun x hx => by have := inv.b_bound x hx; omega
  have a_bd : ∀ x ∈ a0, -2 ^ 64 < x ∧ x < 2 ^ 64 := hA a0 inv.la0 (by rw [← inv.lin0]; exact inv.m0)
  have len1 : b1.length = b0.length := inv.len1.trans inv.len0.symm
  have len2 : b1.length ≤ sizeLine := by rw [inv.len1]; exact hsz
  have len3 : b1.length < 2 ^ 63 := by rw [inv.len1]; exact hsm
  have len4 : a1.length = a0.length := inv.la1.trans inv.la0.symm
  have len5 : a1.length ≤ sizeLine := by rw [inv.la1]; decide +kernel
  have len6 : a1.length < 2 ^ 63 := by rw [inv.la1]; decide +kernel
  refine wpAny_call ?_
  k_dflt cell_enter
  k_steps
  unfold HoldS
  with_reducible (k_dflt ((refine wpAny_call ?_); (refine' code_def ?k1Za ?k2Za ?k3Za ?k4Za ?k5Za ?kAZa ?kFZa ?kKZa ?k6Za ?k7Za ?k8Za ?k9Za ?kBZa ?_ ?c2Za ?c3Za ?c4Za ?c5Za); (case kAZa => exact rfl); (case kFZa => exact rfl); (case kKZa => first | exact rfl | assumption); (case k1Za => k_asm); (case k2Za => k_asm); (case k3Za => k_asm); (case k4Za => k_asm); (case k5Za => k_asm); (case k6Za => k_is); (case k7Za => k_is); (case k8Za => ktr_room); (case k9Za => exact BindsTo.of_eq rfl); (case c5Za => decide); (case kBZa => exact locs rfl); (case c2Za => exact rfl); (case c3Za => exact rfl); (case c4Za => exact rfl); k_whole; intro g' L' h' FG' F' N' B' X' T'; (try dsimp only); (try k_lift B'); (try k_fold)))
  k_steps
  · skip
    rename Fr h₀ L _ _ => lF
    rename News h₀ L _ _ => lN
    refine' sh_ret hret lF lN ?e1Zd ?e2Zd ?e3Zd ?e4Zd ?e5Zd ?e6Zd ?e7Zd ?e8Zd ?e9Zd ?e10Zd ?e11Zd ?i1Zd ?i3Zd ?apZd ?invZd
    (case e1Zd => k_dflt k_mem)
    (case e4Zd => k_dflt k_mem)
    (case e7Zd => k_dflt k_mem)
    (case e8Zd => k_dflt k_mem)
    (case e2Zd => k_dflt k_mem)
    (case e3Zd => k_dflt k_mem)
    (case e5Zd => k_dflt k_mem)
    (case e6Zd => k_dflt k_mem)
    (case e9Zd => k_dflt k_mem)
    (case e10Zd => k_dflt k_mem)
    (case e11Zd => k_dflt k_mem)
    (case i1Zd => assumption)
    (case i3Zd => assumption)
    (case invZd => first | exact ⟨inv, nf_zero nf1 (by assumption)⟩ | exact ⟨inv.shorten _ rfl, nf1⟩)
    (case apZd => (simp only [LAp, Aps, and_true]; (repeat' apply And.intro) <;> first | assumption | exact Apart.symm (by assumption) | exact ⟨Nat.ne_of_lt (lt_all (by assumption) (by k_dflt k_mem))⟩ | exact ⟨Nat.ne_of_gt (lt_all (by assumption) (by k_dflt k_mem))⟩ | exact ⟨by omega⟩))
  · unfold HoldS
    with_reducible (with_reducible show wpAny _ _ (call (Value.ref 44) [Value.ref _, Value.ref _, Value.int _ _]) _ _ _); (k_dflt ((refine' row_less_use ?k1Zb ?k2Zb ?k3Zb ?k4Zb ?k5Zb ?kKZb ?kdZb ?kuZb ?kaZb ?kbZb ?kiZb ?kjZb ?klZb ?ksZb ?kmZb ?kbdZb ?_); (case k1Zb => k_asm); (case k2Zb => k_asm); (case k3Zb => k_asm); (case k4Zb => k_asm); (case k5Zb => k_asm); (case kKZb => first | exact rfl | assumption); (case kdZb => ktr_room); (case kuZb => ktr_units); (case kaZb => is_list); (case kbZb => is_list); (case kiZb => assumption); (case kjZb => assumption); (case klZb => first | rfl | assumption | exact Eq.symm (by assumption)); (case ksZb => assumption); (case kmZb => assumption); (case kbdZb => assumption); intro D9 vs9 h9 tk9 F9 N9 l9 I9; (try k_fold)))
    k_steps
    unfold HoldS
    with_reducible (with_reducible show wpAny _ _ (call (Value.ref 44) [Value.ref _, Value.ref _, Value.int _ _]) _ _ _); (k_dflt ((refine' row_less_use ?k1Zc ?k2Zc ?k3Zc ?k4Zc ?k5Zc ?kKZc ?kdZc ?kuZc ?kaZc ?kbZc ?kiZc ?kjZc ?klZc ?ksZc ?kmZc ?kbdZc ?_); (case k1Zc => k_asm); (case k2Zc => k_asm); (case k3Zc => k_asm); (case k4Zc => k_asm); (case k5Zc => k_asm); (case kKZc => first | exact rfl | assumption); (case kdZc => ktr_room); (case kuZc => ktr_units); (case kaZc => is_list); (case kbZc => is_list); (case kiZc => assumption); (case kjZc => assumption); (case klZc => first | rfl | assumption | exact Eq.symm (by assumption)); (case ksZc => assumption); (case kmZc => assumption); (case kbdZc => assumption); intro D9 vs9 h9 tk9 F9 N9 l9 I9; (try k_fold)))
    k_steps
    rename Fr h₀ L _ _ => lF
    rename News h₀ L _ _ => lN
    refine' sh_ret hret lF lN ?e1Ze ?e2Ze ?e3Ze ?e4Ze ?e5Ze ?e6Ze ?e7Ze ?e8Ze ?e9Ze ?e10Ze ?e11Ze ?i1Ze ?i3Ze ?apZe ?invZe
    (case e1Ze => k_dflt k_mem)
    (case e4Ze => k_dflt k_mem)
    (case e7Ze => k_dflt k_mem)
    (case e8Ze => k_dflt k_mem)
    (case e2Ze => k_dflt k_mem)
    (case e3Ze => k_dflt k_mem)
    (case e5Ze => k_dflt k_mem)
    (case e6Ze => k_dflt k_mem)
    (case e9Ze => k_dflt k_mem)
    (case e10Ze => k_dflt k_mem)
    (case e11Ze => k_dflt k_mem)
    (case i1Ze => assumption)
    (case i3Ze => assumption)
    (case invZe => first | exact ⟨inv, nf_zero nf1 (by assumption)⟩ | exact ⟨inv.shorten _ rfl, nf1⟩)
    (case apZe => (simp only [LAp, Aps, and_true]; (repeat' apply And.intro) <;> first | assumption | exact Apart.symm (by assumption) | exact ⟨Nat.ne_of_lt (lt_all (by assumption) (by k_dflt k_mem))⟩ | exact ⟨Nat.ne_of_gt (lt_all (by assumption) (by k_dflt k_mem))⟩ | exact ⟨by omega⟩))
section
variable {w : World} {mean : ExcName → Option Value} {mg mb : Str → Option Value} {dp un : Nat} {gd : Option (List Code)} {cn : Str} {cs : Scope} {a : Addr} {ccd : Value} {cl : List (Str × Addr)} {outer : List Env} {A₀ : Around} {base h₀ : Heap} {L : Addr} {m : Str → Option Value} {s : Shared} {Q E : Value → Shared → Prop}
theorem short_use {fl cg sz lo am r0 r1 c0 c1 l0 l1 : Addr} {om : Obj} {w0 w1 u0 u1 : List Value} {b0 b1 a0 a1 : List Int} {nf ng ns nl n0 n1 n2 n3 n4 n5 : Nat} {s1 l s2 : Int} {t0 t1 t2 tl ta tb : Tok} {xs ys : List Int} {M : Int}
    (B : Below A₀ base outer h₀) (F : Fr h₀ L s.heap m) (N : News h₀ L s.heap [(fl, listOf #[.ref r0, .ref r1] nf), (r0, listOf w0.toArray n0), (r1, listOf w1.toArray n1), (cg, listOf #[.ref c0, .ref c1] ng), (c0, listOf u0.toArray n2), (c1, listOf u1.toArray n3), (sz, listOf #[.int 1 t0, .int s1 t1, .int s2 t2] ns), (lo, listOf #[.ref l0, .ref l1] nl), (l0, listOf #[] n4), (l1, listOf #[.int l tl] n5), (am, om)])
    (X : (hd.heap_39 w.params).In h₀) (T : Top hd.view_39 (looseW hd.view_39 []) mean mg mb h₀) (hk : cs.kind = .function) (hd : dp + 8 < recursionLimit) (hu : un + 8 * 8 < cLine)
    (i0 : IntsAre w0 b0) (i1 : IntsAre w1 b1) (i2 : IntsAre u0 a0) (i3 : IntsAre u1 a1) (ap : LAp fl cg sz lo am r0 r1 c0 c1 l0 l1) (inv : LInv xs ys M s2 b0 b1 a0 a1 s1 l) (hM : M < 2 ^ 28) (hsz : xs.length ≤ sizeLine) (hsm : xs.length < 2 ^ 63)
    (hA : ∀ a : List Int, a.length = 2 → dot (lin a xs ys) (lin a xs ys) ≤ M → ∀ x ∈ a, -2 ^ 64 < x ∧ x < 2 ^ 64)
    (ret : ∀ (r1 c1 : Addr) (w1 u1 : List Value) (b1 a1 : List Int) (nf ng n1 n3 n5 : Nat) (l : Int) (tl : Tok) h' tk', Fr h₀ L h' m →
      News h₀ L h' [(fl, listOf #[.ref r0, .ref r1] nf), (r0, listOf w0.toArray n0), (r1, listOf w1.toArray n1), (cg, listOf #[.ref c0, .ref c1] ng), (c0, listOf u0.toArray n2), (c1, listOf u1.toArray n3), (sz, listOf #[.int 1 t0, .int s1 t1, .int s2 t2] ns), (lo, listOf #[.ref l0, .ref l1] nl), (l0, listOf #[] n4), (l1, listOf #[.int l tl] n5), (am, om)] →
      IntsAre w1 b1 → IntsAre u1 a1 → LAp fl cg sz lo am r0 r1 c0 c1 l0 l1 → LInv xs ys M s2 b0 b1 a0 a1 s1 l → -s1 ≤ 2 * l ∧ 2 * l < s1 → Q .none { s with heap := h', toks := tk' }) :
    wpAny (model PySem.Challenge.rw_sy0001_01.row.prog w) (ktrTop dp un gd cn cs L a ccd cl outer) (call (.ref 72) [.ref fl, .ref cg, .ref sz, .ref lo, .int 1 ta, .int 0 tb]) Q E s :=
  (short_c w mean mg mb fl cg sz lo am r0 r1 c0 c1 l0 l1 om w0 w1 u0 u1 b0 b1 a0 a1 nf ng ns nl n0 n1 n2 n3 n4 n5 s1 l s2 t0 t1 t2 tl ta tb xs ys M i0 i1 i2 i3 ap inv hM hsz hsm hA) dp un gd cn cs a ccd cl outer A₀ base h₀ L m s Q E B F X N T hk hd hu fun v news' h' tk' F' N' hp => by
    obtain ⟨r1', c1', w1', u1', b1', a1', nf', ng', n1', n3', n5', l', tl', rfl, rfl, j1, j3, ap', inv', z1, z2⟩ := hp
    exact ret r1' c1' w1' u1' b1' a1' nf' ng' n1' n3' n5' l' tl' h' tk' F' N' j1 j3 ap' inv' ⟨z1, z2⟩
end
end Mine
end
section -- Lll3
open PySem PySem.W PySem.Calls PyProof.Rows PyProof.Rows.LCg
namespace Mine

def Stop (P : Prop) : Prop := P
theorem stop_here {P : Prop} (h : Stop P) : P := h
inductive LllPost (xs ys : List Int) (M s2 : Int) (H : Heap) (v : Value) (h : Heap) : Prop
  | mk (T fa ca f0 f1 c0 c1 : Addr) (w0 w1 u0 u1 : List Value) (b0 b1 a0 a1 : List Int) (nf nc n0 n1 n2 n3 : Nat) (s1 l : Int) (hv : v = .ref T)
    (eT : h.get? T = some (tupOf [.ref fa, .ref ca])) (efa : h.get? fa = some (listOf #[.ref f0, .ref f1] nf)) (eca : h.get? ca = some (listOf #[.ref c0, .ref c1] nc))
    (ef0 : h.get? f0 = some (listOf w0.toArray n0)) (ef1 : h.get? f1 = some (listOf w1.toArray n1)) (ec0 : h.get? c0 = some (listOf u0.toArray n2)) (ec1 : h.get? c1 = some (listOf u1.toArray n3))
    (new : H.get? T = none ∧ H.get? fa = none ∧ H.get? ca = none ∧ H.get? f0 = none ∧ H.get? f1 = none ∧ H.get? c0 = none ∧ H.get? c1 = none)
    (i0 : IntsAre w0 b0) (i1 : IntsAre w1 b1) (i2 : IntsAre u0 a0) (i3 : IntsAre u1 a1) (inv : LInv xs ys M s2 b0 b1 a0 a1 s1 l) (red : LRed s1 s2 l) : LllPost xs ys M s2 H v h

theorem lt_step {a b c : Nat} (h : b < c) (g : a < b) : a < c := Nat.lt_trans g h
theorem lll_post {xs ys : List Int} {M s2 : Int} {H h : Heap} {L : Addr} {all : List (Addr × Obj)} {T fa ca f0 f1 c0 c1 : Addr} {w0 w1 u0 u1 : List Value} {b0 b1 a0 a1 : List Int} {nf nc n0 n1 n2 n3 : Nat} {s1 l : Int}
    (N : News H L h all) (e0 : (T, tupOf [.ref fa, .ref ca]) ∈ all) (e1 : (fa, listOf #[.ref f0, .ref f1] nf) ∈ all) (e2 : (ca, listOf #[.ref c0, .ref c1] nc) ∈ all) (e3 : (f0, listOf w0.toArray n0) ∈ all) (e4 : (f1, listOf w1.toArray n1) ∈ all) (e5 : (c0, listOf u0.toArray n2) ∈ all) (e6 : (c1, listOf u1.toArray n3) ∈ all)
    (i0 : IntsAre w0 b0) (i1 : IntsAre w1 b1) (i2 : IntsAre u0 a0) (i3 : IntsAre u1 a1) (inv : LInv xs ys M s2 b0 b1 a0 a1 s1 l) (red : LRed s1 s2 l) : LllPost xs ys M s2 H (.ref T) h :=
  ⟨T, fa, ca, f0, f1, c0, c1, w0, w1, u0, u1, b0, b1, a0, a1, nf, nc, n0, n1, n2, n3, s1, l, rfl, (N _ e0).1, (N _ e1).1, (N _ e2).1, (N _ e3).1, (N _ e4).1, (N _ e5).1, (N _ e6).1,
    ⟨(N _ e0).2.2, (N _ e1).2.2, (N _ e2).2.2, (N _ e3).2.2, (N _ e4).2.2, (N _ e5).2.2, (N _ e6).2.2⟩, i0, i1, i2, i3, inv, red⟩

theorem way_ex {xs ys b0 b1 a0 a1 : List Int} {M s2 s1 l : Int} (inv : LInv xs ys M s2 b0 b1 a0 a1 s1 l) (h : 1 * (s2 * 1 + l * l) < 1 * s1 * s1) :
    LInv xs ys M s2 b1 b0 a1 a0 (Int.fdiv (1 * s2 + l * l) s1) l ∧ (false = true → LRed (Int.fdiv (1 * s2 + l * l) s1) s2 l) ∧ (if false = true then 0 else (Int.fdiv (1 * s2 + l * l) s1).toNat + 1) < s1.toNat + 1 := by
  rw [Int.one_mul, Int.mul_one, Int.one_mul] at h
  rw [Int.one_mul]
  obtain ⟨a, b⟩ := inv.exchange h
  refine ⟨a, fun q => (nomatch q), ?_⟩
  have := a.p1
  simp only [Bool.false_eq_true, if_false]
  omega
theorem way_no {xs ys b0 b1 a0 a1 : List Int} {M s2 s1 l : Int} {n : Nat} (inv : LInv xs ys M s2 b0 b1 a0 a1 s1 l) (nf : -s1 ≤ 2 * l ∧ 2 * l < s1) (h : ¬ 1 * (s2 * 1 + l * l) < 1 * s1 * s1) :
    LInv xs ys M s2 b0 b1 a0 a1 s1 l ∧ (true = true → LRed s1 s2 l) ∧ (if true = true then 0 else s1.toNat + 1) < n + 1 := by
  rw [Int.one_mul, Int.mul_one, Int.one_mul] at h
  refine ⟨inv, fun _ => ⟨nf.1, Int.le_of_lt nf.2, Int.not_lt.mp h⟩, ?_⟩
  simp
local macro_rules | `(tactic| k_lt $h) => `(tactic| skip)
local macro_rules | `(tactic| k_ne) => `(tactic| first | exact Apart.ne (by assumption) | exact Apart.ne (Apart.symm (by assumption)) | (refine neN ?_; (try dsimp only); first | exact Nat.ne_of_lt (lt_all (by assumption) (by k_mem)) | exact Nat.ne_of_gt (lt_all (by assumption) (by k_mem)) | exact Nat.ne_of_lt (lt_step (by assumption) (lt_all (by assumption) (by k_mem))) | exact Nat.ne_of_gt (lt_step (by assumption) (lt_all (by assumption) (by k_mem))) | omega))
local macro_rules | `(tactic| walk_at "binaryOp Add int int") => `(tactic| (k_here; (refine' add_to ?e ?_; (case e => ((simp only [Int.reduceAdd]); exact rfl)))))
local macro_rules | `(tactic| walk_at "binaryOp Sub int int") => `(tactic| (k_here; (refine' sub_to ?e ?_; (case e => ((simp only [Int.reduceSub]); exact rfl)))))
local macro_rules | `(tactic| walk_at "subscriptTail") => `(tactic| (k_here; (with_reducible show wpAny _ _ (subscriptTail _ _ (Value.ref _) (Value.int _ _)) _ _ _); k_dflt ((refine' item_written ?k1 ?k2 ?k3 ?k4 ?_ ?k6); (case k1 => is_list); (case k2 => decide); (case k3 => decide); (case k4 => rfl); (case k6 => with_unfolding_all rfl); k_whole; (try dsimp only))))
local macro_rules | `(tactic| walk_at "subscriptTail Name BinOp ref int") => `(tactic| walk_at "subscriptTail")
local macro_rules | `(tactic| walk_at "subscriptTail Name Name ref int") => `(tactic| walk_at "subscriptTail")
local macro_rules | `(tactic| walk_at "subscriptTail Subscript") => `(tactic| walk_at "subscriptTail")
local macro_rules | `(tactic| walk_at "exec While Compare cons nil") => `(tactic| (k_here; refine stop_here ?_))
local macro_rules | `(tactic| walk_at "call ref") => `(tactic| (k_here; refine stop_here ?_))
local macro_rules | `(tactic| walk_at "exec Assign cons ListComp") => `(tactic| (k_here; (with_reducible show wpAny _ _ (exec (Stmt.Assign [Expr.Name (Str.ofString "changes") _] _ _) _) _ _ _); refine stop_here ?_))
local macro_rules | `(tactic| walk_at "call type:range") => `(tactic| (k_here; (with_reducible show wpAny _ _ (call (Value.type _) [Value.int _ _]) (fun xv s₁ => wpAny _ _ (pyIter xv) (CompAtC _ _ _ _ _ _ _ _ _ _) _ _) _ _); refine stop_here ?_))

set_option maxRecDepth 100000 in
set_option maxHeartbeats 8000000 in
theorem lll_c (w : World) (mean : ExcName → Option Value) (mg mb : Str → Option Value) (rl r0 r1 : Addr) (v0 v1 : List Value) (xs ys : List Int) (t1 t2 : Tok) (M : Int) (hi : IntsAre v0 xs) (hj : IntsAre v1 ys) (hlen : xs.length = ys.length) (hsz : xs.length ≤ sizeLine) (hsz2 : ys.length ≤ sizeLine) (hsm : xs.length < 2 ^ 63) (hsm2 : ys.length < 2 ^ 63) (hbd : ∀ x ∈ xs, -2 ^ 64 < x ∧ x < 2 ^ 64) (hbd2 : ∀ x ∈ ys, -2 ^ 64 < x ∧ x < 2 ^ 64)
    (hp1 : 0 < dot xs xs) (hq1 : dot xs xs < 2 ^ 64) (hq2 : -2 ^ 64 < dot ys xs) (hq3 : dot ys xs < 2 ^ 64) (hp2 : 0 < dot xs xs * dot ys ys - dot ys xs * dot ys xs)
    (inv0 : LInv xs ys M (dot xs xs * dot ys ys - dot ys xs * dot ys xs) xs ys [1, 0] [0, 1] (dot xs xs) (dot ys xs)) (hM : M < 2 ^ 28)
    (hA : ∀ a : List Int, a.length = 2 → dot (lin a xs ys) (lin a xs ys) ≤ M → ∀ x ∈ a, -2 ^ 64 < x ∧ x < 2 ^ 64) :
   CtrK w mean mg mb 84 [.ref rl, .int 1 t1, .int 1 t2] 12 (fun h => h.IsList rl #[.ref r0, .ref r1] ∧ h.IsList r0 v0.toArray ∧ h.IsList r1 v1.toArray) (LllPost xs ys M (dot xs xs * dot ys ys - dot ys xs * dot ys xs)) := by
  unfold CtrK TP KK PR
  w_top off
  k_fill
  intro dp un gd cn cs a ccd cl outer A₀ base h₀ L m s Q E B F X T hk hd hu hpre hret
  refine wpAny_call ?_
  k_dflt (first | (refine' enter_plain ?k1Zk ?k2Zk ?k3Zk ?k5Zk ?kAZk ?kFZk ?kKZk ?k6Zk ?k7Zk ?k8Zk ?k9Zk ?kBZk ?_ ?c2Zk ?c3Zk ?c4Zk ?c5Zk; (case kAZk => exact rfl); (case kFZk => exact rfl); (case kKZk => assumption); (case k1Zk => k_asm); (case k2Zk => k_asm); (case k3Zk => k_asm); (case k5Zk => k_asm); (case k6Zk => k_is); (case k7Zk => k_is); (case k8Zk => ktr_room); (case k9Zk => exact BindsTo.of_eq rfl); (case c5Zk => decide); (case kBZk => exact locs rfl); (case c2Zk => exact rfl); (case c3Zk => exact rfl); (case c4Zk => exact rfl); k_whole; intro L' h' FG' F' N' B' X' T'; (try dsimp only); (try k_lift B'); (try k_fold)) | (refine' enter_cells ?k1Zk ?k2Zk ?k3Zk ?k5Zk ?kAZk ?kFZk ?kKZk ?k6Zk ?k7Zk ?k8Zk ?k9Zk ?kBZk ?kDZk ?_ ?c2Zk ?c3Zk ?c4Zk; (case kAZk => exact rfl); (case kFZk => exact rfl); (case kKZk => assumption); (case k1Zk => k_asm); (case k2Zk => k_asm); (case k3Zk => k_asm); (case k5Zk => k_asm); (case k6Zk => k_is); (case k7Zk => k_is); (case k8Zk => ktr_room); (case k9Zk => exact BindsTo.of_eq rfl); (case kBZk => exact rfl); (case kDZk => decide +kernel); (case c2Zk => exact rfl); (case c3Zk => exact rfl); (case c4Zk => exact rfl); k_whole; intro L' h' tk' cells' FG' F' N' Y' B' X' T'; k_cells Y'; (try simp only [List.cons_append, List.nil_append] at N'); (try dsimp only); (try k_lift B'); (try k_fold)))
  obtain ⟨hrl, hr0, hr1⟩ := hpre
  k_steps
  repeat' (unfold Stop; (with_reducible (first | ((with_reducible show wpAny _ _ (call (Value.ref 58) [Value.ref _]) _ _ _); (k_dflt ((refine' gram_use ?k1 ?k2 ?k3 ?k4 ?k5 ?kK ?kd ?ku ?ki ?kj ?kl ?ks ?ks2 ?km ?km2 ?kbd ?kbd2 ?p1 ?p2 ?p3 ?p4 ?p5 ?_); (case k1 => k_asm); (case k2 => k_asm); (case k3 => k_asm); (case k4 => k_asm); (case k5 => k_asm); (case kK => first | exact rfl | assumption); (case kd => ktr_room); (case ku => ktr_units); (case ki => assumption); (case kj => assumption); (case kl => assumption); (case ks => assumption); (case ks2 => assumption); (case km => assumption); (case km2 => assumption); (case kbd => assumption); (case kbd2 => assumption); (case p1 => assumption); (case p2 => assumption); (case p3 => assumption); (case p4 => assumption); (case p5 => assumption); intro T9 sz9 lo9 la9 lb9 t19 t29 t39 t49 n19 n29 n39 n49 h9 tk9 F9 N9 b19 b29 b39 b49 x19 x29 x39 x49 x59 x69; (try k_fold)))) | ((with_reducible show wpAny _ _ (exec (Stmt.Assign [Expr.Name (Str.ofString "changes") _] _ _) _) _ _ _); (k_dflt (refine assign_evalC (by with_unfolding_all rfl) (by with_unfolding_all rfl) (by intro _ _; rfl) (by intro _; rfl) (by rfl) (by decide) (by intro _ _; rfl) (by rfl) (by rfl) ?_))) | ((with_reducible show wpAny _ _ (call (Value.type _) [Value.int _ _]) (fun xv s₁ => wpAny _ _ (pyIter xv) (CompAtC _ _ _ _ _ _ _ _ _ _) _ _) _ _); (k_dflt ((rename Fr _ _ _ _ => lF'); (rename News _ _ _ _ => lN'); (refine' ident_at ?a1 lF' lN' ?a2 ?a3 ?a4 ?a5 ?a6 ?a7 ?a8 ?a9 ?a10 ?a11 ?a12 ?a13 ?a14 ?a15 ?a16 ?a17 ?a18 ?a19 ?a20 ?a21 ?a22 ?a23 ?_); (case a1 => with_unfolding_all rfl); (case a18 => with_unfolding_all rfl); (case a4 => k_mem); (case a5 => with_unfolding_all assumption); (case a2 => k_asm); (case a3 => k_asm); (case a6 => k_is); (case a7 => boot_by_name); (case a8 => rfl); (case a9 => rfl); (case a10 => intro _ _; with_unfolding_all rfl); (case a11 => decide); (case a12 => rfl); (case a13 => decide); (case a14 => rfl); (case a15 => intro _ _ _; rfl); (case a16 => rfl); (case a17 => intro _ _; rfl); (case a19 => decide); (case a20 => intro _ _; rfl); (case a21 => decide); (case a22 => decide); (case a23 => decide); clear lF' lN'; intro D' c0' c1' h' tk' t00' t01' t10' t11' F' N' l1 l2 l3 l4; (try k_fold)))) | ((k_dflt ((refine wpAny_call ?_); (refine' code_def ?k1 ?k2 ?k3 ?k4 ?k5 ?kA ?kF ?kK ?k6 ?k7 ?k8 ?k9 ?kB ?_ ?c2 ?c3 ?c4 ?c5); (case kA => exact rfl); (case kF => exact rfl); (case kK => first | exact rfl | assumption); (case k1 => k_asm); (case k2 => k_asm); (case k3 => k_asm); (case k4 => k_asm); (case k5 => k_asm); (case k6 => k_is); (case k7 => k_is); (case k8 => ktr_room); (case k9 => exact BindsTo.of_eq rfl); (case c5 => decide); (case kB => exact locs rfl); (case c2 => exact rfl); (case c3 => exact rfl); (case c4 => exact rfl); k_whole; intro g' L' h' FG' F' N' B' X' T'; (try dsimp only); (try k_lift B'); (try k_fold)))))); k_steps)
  unfold Stop
  rename Fr s.heap _ _ _ => lF
  rename News s.heap _ _ _ => lN
  rename _ = Data.cell (some (Value.int _ _)) => hc
  replace hc : _ = Data.cell (some (Value.int 2 _)) := hc
  refine' lll_while lF lN ?g1 ?g2 ?g3 ?g4 ?g5 ?e1 ?e2 ?e3 ?e4 ?e5 ?e6 ?e7 ?e8 ?e9 ?e10 ?e11 ?hat ?i0 ?i1 ?i2 ?i3 ?ap ?inv ?turn ?leave ?hE
  case g1 => with_unfolding_all rfl
  case g2 => with_unfolding_all rfl
  case g3 => with_unfolding_all rfl
  case g4 => with_unfolding_all rfl
  case g5 => with_unfolding_all rfl
  case hat => with_unfolding_all rfl
  case hE => first | passes_own | with_unfolding_all passes_own
  case e1 => k_dflt k_mem
  case e4 => k_dflt k_mem
  case e7 => k_dflt k_mem
  case e8 => k_dflt k_mem
  case e2 => k_dflt k_mem
  case e3 => k_dflt k_mem
  case e5 => k_dflt k_mem
  case e6 => k_dflt k_mem
  case e9 => k_dflt k_mem
  case e10 => k_dflt k_mem
  case e11 => k_dflt k_mem
  case i0 => assumption
  case i1 => assumption
  case i2 => exact .cons _ _ (.cons _ _ .nil)
  case i3 => exact .cons _ _ (.cons _ _ .nil)
  case inv => exact inv0
  case ap => (simp only [LAp, Aps, and_true]; (repeat' apply And.intro) <;> first | assumption | exact Apart.symm (by assumption) | exact ⟨Nat.ne_of_lt (lt_all (by assumption) (by k_dflt k_mem))⟩ | exact ⟨Nat.ne_of_gt (lt_all (by assumption) (by k_dflt k_mem))⟩ | exact ⟨Nat.ne_of_lt (lt_step (by assumption) (lt_all (by assumption) (by k_dflt k_mem)))⟩ | exact ⟨Nat.ne_of_gt (lt_step (by assumption) (lt_all (by assumption) (by k_dflt k_mem)))⟩ | exact ⟨Nat.ne_of_lt (by assumption)⟩ | exact ⟨Nat.ne_of_gt (by assumption)⟩ | exact ⟨by omega⟩)
  case turn =>
    repeat (rename _ ∧ _ => lz; clear lz)
    intro ta r0 r1 c0 c1 l0 l1 w0 w1 u0 u1 b0 b1 a0 a1 nf ng ns nl n0 n1 n2 n3 n4 n5 s1 l t1 tl u h tk i0 i1 i2 i3 ap inv F1 N1
    have lap := ap
    clear ap
    have s_pos := inv.s_bound
    have l_bd := inv.l_bound
    k_steps
    unfold Stop
    with_reducible ((with_reducible show wpAny _ _ (call (Value.ref 72) [Value.ref _, Value.ref _, Value.ref _, Value.ref _, Value.int _ _, Value.int _ _]) _ _ _); (rename Fr _ _ _ _ => lF'); (rename News _ _ _ _ => lN'); (k_dflt ((refine' short_use ?k1 lF' lN' ?k4 ?k5 ?kK ?kd ?ku ?i0 ?i1 ?i2 ?i3 ?ap ?inv ?hM ?hsz ?hsm ?hA ?_); (case k1 => k_asm); (case k4 => k_asm); (case k5 => k_asm); (case kK => exact rfl); (case kd => ktr_room); (case ku => ktr_units); (case inv => exact inv); (case i0 => assumption); (case i1 => assumption); (case i2 => assumption); (case i3 => assumption); (case ap => exact lap); (case hM => assumption); (case hsz => assumption); (case hsm => assumption); (case hA => assumption); clear lF' lN' i1 i3 lap inv; intro r1 c1 w1 u1 b1 a1 nf ng n1 n3 n5 l tl h9 tk9 F9 N9 i1 i3 lap inv nf1; (try k_fold))))
    revert nf1
    have ap := lap
    simp only [LAp, Aps, and_true] at ap
    repeat (rename _ ∧ _ => lz; obtain ⟨_, _⟩ := lz)
    intro nf1
    have l_bd := inv.l_bound
    k_steps
    unfold Stop
    with_reducible (k_dflt ((refine wpAny_call ?_); (refine' code_def ?k1Za ?k2Za ?k3Za ?k4Za ?k5Za ?kAZa ?kFZa ?kKZa ?k6Za ?k7Za ?k8Za ?k9Za ?kBZa ?_ ?c2Za ?c3Za ?c4Za ?c5Za); (case kAZa => exact rfl); (case kFZa => exact rfl); (case kKZa => first | exact rfl | assumption); (case k1Za => k_asm); (case k2Za => k_asm); (case k3Za => k_asm); (case k4Za => k_asm); (case k5Za => k_asm); (case k6Za => k_is); (case k7Za => k_is); (case k8Za => ktr_room); (case k9Za => exact BindsTo.of_eq rfl); (case c5Za => decide); (case kBZa => exact locs rfl); (case c2Za => exact rfl); (case c3Za => exact rfl); (case c4Za => exact rfl); k_whole; intro g' L' h' FG' F' N' B' X' T'; (try dsimp only); (try k_lift B'); (try k_fold)))
    k_steps
    · unfold Stop
      with_reducible (k_dflt ((refine wpAny_call ?_); (refine' code_def ?k1Zb ?k2Zb ?k3Zb ?k4Zb ?k5Zb ?kAZb ?kFZb ?kKZb ?k6Zb ?k7Zb ?k8Zb ?k9Zb ?kBZb ?_ ?c2Zb ?c3Zb ?c4Zb ?c5Zb); (case kAZb => exact rfl); (case kFZb => exact rfl); (case kKZb => first | exact rfl | assumption); (case k1Zb => k_asm); (case k2Zb => k_asm); (case k3Zb => k_asm); (case k4Zb => k_asm); (case k5Zb => k_asm); (case k6Zb => k_is); (case k7Zb => k_is); (case k8Zb => ktr_room); (case k9Zb => exact BindsTo.of_eq rfl); (case c5Zb => decide); (case kBZb => exact locs rfl); (case c2Zb => exact rfl); (case c3Zb => exact rfl); (case c4Zb => exact rfl); k_whole; intro g' L' h' FG' F' N' B' X' T'; (try dsimp only); (try k_lift B'); (try k_fold)))
      k_steps
      (try dsimp only [LPost, KswPost])
      ((rename Fr _ _ _ _ => lF); (rename News _ _ _ _ => lN); ((refine' lll_end (dn := false) lF lN ?e1Zc ?e2Zc ?e3Zc ?e4Zc ?e5Zc ?e6Zc ?e7Zc ?e8Zc ?e9Zc ?e10Zc ?e11Zc ?hatZc ?hrZc ?i0Zc ?i1Zc ?i2Zc ?i3Zc ?apZc ?invZc); (case hatZc => with_unfolding_all rfl); (case e1Zc => k_dflt k_mem); (case e4Zc => k_dflt k_mem); (case e7Zc => k_dflt k_mem); (case e8Zc => k_dflt k_mem); (case e2Zc => k_dflt k_mem); (case e3Zc => k_dflt k_mem); (case e5Zc => k_dflt k_mem); (case e6Zc => k_dflt k_mem); (case e9Zc => k_dflt k_mem); (case e10Zc => k_dflt k_mem); (case e11Zc => k_dflt k_mem); (case hrZc => (intro z h2 h3; (simp only [List.contains_cons, List.contains_nil, Bool.or_false, beq_eq_false_iff_ne, ne_eq] at h3); (simp [h2, h3]; done))); (case i0Zc => assumption); (case i1Zc => assumption); (case i2Zc => assumption); (case i3Zc => assumption); (case apZc => (simp only [LAp, Aps, and_true]; (repeat' apply And.intro) <;> first | assumption | exact Apart.symm (by assumption) | exact ⟨Nat.ne_of_lt (lt_all (by assumption) (by k_dflt k_mem))⟩ | exact ⟨Nat.ne_of_gt (lt_all (by assumption) (by k_dflt k_mem))⟩ | exact ⟨Nat.ne_of_lt (lt_step (by assumption) (lt_all (by assumption) (by k_dflt k_mem)))⟩ | exact ⟨Nat.ne_of_gt (lt_step (by assumption) (lt_all (by assumption) (by k_dflt k_mem)))⟩ | exact ⟨by omega⟩))))
      first | exact way_no inv nf1 (by assumption) | exact way_ex inv (by assumption)
    · (try dsimp only [LPost, KswPost])
      ((rename Fr _ _ _ _ => lF); (rename News _ _ _ _ => lN); ((refine' lll_end (dn := true) lF lN ?e1Zd ?e2Zd ?e3Zd ?e4Zd ?e5Zd ?e6Zd ?e7Zd ?e8Zd ?e9Zd ?e10Zd ?e11Zd ?hatZd ?hrZd ?i0Zd ?i1Zd ?i2Zd ?i3Zd ?apZd ?invZd); (case hatZd => with_unfolding_all rfl); (case e1Zd => k_dflt k_mem); (case e4Zd => k_dflt k_mem); (case e7Zd => k_dflt k_mem); (case e8Zd => k_dflt k_mem); (case e2Zd => k_dflt k_mem); (case e3Zd => k_dflt k_mem); (case e5Zd => k_dflt k_mem); (case e6Zd => k_dflt k_mem); (case e9Zd => k_dflt k_mem); (case e10Zd => k_dflt k_mem); (case e11Zd => k_dflt k_mem); (case hrZd => (intro z h2 h3; (simp only [List.contains_cons, List.contains_nil, Bool.or_false, beq_eq_false_iff_ne, ne_eq] at h3); (simp [h2, h3]; done))); (case i0Zd => assumption); (case i1Zd => assumption); (case i2Zd => assumption); (case i3Zd => assumption); (case apZd => (simp only [LAp, Aps, and_true]; (repeat' apply And.intro) <;> first | assumption | exact Apart.symm (by assumption) | exact ⟨Nat.ne_of_lt (lt_all (by assumption) (by k_dflt k_mem))⟩ | exact ⟨Nat.ne_of_gt (lt_all (by assumption) (by k_dflt k_mem))⟩ | exact ⟨Nat.ne_of_lt (lt_step (by assumption) (lt_all (by assumption) (by k_dflt k_mem)))⟩ | exact ⟨Nat.ne_of_gt (lt_step (by assumption) (lt_all (by assumption) (by k_dflt k_mem)))⟩ | exact ⟨by omega⟩))))
      first | exact way_no inv nf1 (by assumption) | exact way_ex inv (by assumption)
  case leave =>
    intro ta r0 r1 c0 c1 l0 l1 w0 w1 u0 u1 b0 b1 a0 a1 nf ng ns nl n0 n1 n2 n3 n4 n5 s1 l t1 tl u h tk Q' i0 i1 i2 i3 inv red F1 N1
    k_steps
    rename Fr s.heap _ _ _ => lF
    rename News s.heap _ _ _ => lN
    refine hret _ _ _ lF.keep ?_
    refine' lll_post lN ?e0 ?e1 ?e2 ?e3 ?e4 ?e5 ?e6 ?j0 ?j1 ?j2 ?j3 ?jv ?jr
    case e0 => k_dflt k_mem
    case e1 => k_dflt k_mem
    case e2 => k_dflt k_mem
    case e3 => k_dflt k_mem
    case e4 => k_dflt k_mem
    case e5 => k_dflt k_mem
    case e6 => k_dflt k_mem
    case jv => exact inv
    case jr => exact red
    case j0 => assumption
    case j1 => assumption
    case j2 => assumption
    case j3 => assumption
end Mine
end
section -- Ld
open PySem PySem.W PySem.Calls PyProof.Rows PyProof.Rows.LCg
namespace Mine

def StopN (P : Prop) : Prop := P
theorem stopN {P : Prop} (h : StopN P) : P := h

section
variable {prog : Program} {w : World} {A : Around} {E : Value → Shared → Prop} {Q : Flow → Shared → Prop} {s : Shared} {env : Env} {h₀ : Heap} {L : Addr}
/-- a while over one int and a fuel, the ledger standing -/
abbrev OnePost (h₀ : Heap) (L : Addr) (s : Shared) (x : Str) (news : List (Addr × Obj)) (m₀ : Str → Option Value) (P : Nat → Int → Prop) (Q : Flow → Shared → Prop) (c : Nat × Int × Tok) : Flow → Shared → Prop :=
  KswPost h₀ L s (fun _ => news) (fun c => [(x, .int c.2.1 c.2.2)]) (fun _ => True) [] m₀ (fun c => P c.1 c.2.1) (fun c => c.1) Q c
theorem one_while {test : PySem.Expr} {body : List Stmt} {pos : Pos} {m₀ : Str → Option Value} {news : List (Addr × Obj)} (x : Str) (P : Nat → Int → Prop) {f₀ : Int} {t₀ : Tok} (k₀ : Nat)
    (F : Fr h₀ L s.heap m₀) (N : News h₀ L s.heap news) (hx : m₀ x = some (.int f₀ t₀)) (hp : P k₀ f₀)
    (turn : ∀ k f t h tk, P k f → Fr h₀ L h (fun z => if z = x then some (.int f t) else m₀ z) → News h₀ L h news →
      wpAny (model prog w) A (isTrue test env (eval test env)) (fun b s₂ => if b = true then wpAny (model prog w) A (execs body env) (OnePost h₀ L s x news m₀ P Q (k, f, t)) E s₂ else Q .next s₂) E { s with heap := h, toks := tk })
    (hE : PassesOwn (model prog w) A env E) : wpAny (model prog w) A (exec (.While test body [] pos) env) Q E s := by
  refine ksw_while (fun _ => news) (fun c : Nat × Int × Tok => [(x, .int c.2.1 c.2.2)]) (fun _ => True) [] (fun c => P c.1 c.2.1) (fun c => c.1) (k₀, f₀, t₀) F N trivial ?_ hp ?_ hE
  · intro p hp; rw [List.mem_singleton.mp hp]; exact hx
  · rintro ⟨k, f, t⟩ u h tk _ hP F' N'
    exact turn k f t h tk hP F' N'
theorem one_end {m₀ m' : Str → Option Value} {news all : List (Addr × Obj)} {x : Str} {P : Nat → Int → Prop} {k k' : Nat} {f f' : Int} {t t' : Tok} {h' : Heap} {tk : Nat} (F : Fr h₀ L h' m') (N : News h₀ L h' all) (hn : ∀ p ∈ news, p ∈ all)
    (hx : m' x = some (.int f' t')) (hr : ∀ z, z ≠ x → m' z = m₀ z) (hp : P k' f') (hk : k' < k) :
    KswEnd h₀ L s (fun _ => news) (fun c : Nat × Int × Tok => [(x, .int c.2.1 c.2.2)]) (fun _ => True) [] m₀ (fun c => P c.1 c.2.1) (fun c => c.1) (k, f, t) { s with heap := h', toks := tk } := by
  refine ksw_end (k', f', t') F N hn trivial ?_ ?_ hp hk
  · intro p hp; rw [List.mem_singleton.mp hp]; exact hx
  · intro z hz _; exact hr z (hz _ (List.mem_singleton.mpr rfl))
end

theorem ld_le {n f : Int} (hf : 2 ≤ f) (h : f * f ≤ n) : f ≤ n := by
  have : f * 1 ≤ f * f := Int.mul_le_mul_of_nonneg_left (by omega) (by omega)
  omega
theorem ld_none {n f : Int} {k : Nat} (h : ¬ f * f ≤ n) : ldF n k f = n := by
  cases k with
  | zero => rfl
  | succ k => rw [ldF, if_neg h]

theorem ld_succ {n f : Int} {k : Nat} (hf : 2 ≤ f) (h : f * f ≤ n) (hk : n + 1 - f ≤ k) : ∃ k', k = k' + 1 := by
  have := ld_le hf h
  exact ⟨k - 1, by omega⟩
theorem ld_found {n f : Int} {k : Nat} (hf : 2 ≤ f) (h : f * f ≤ n) (hk : n + 1 - f ≤ k) (h2 : Int.fmod n f = 0) : ldF n k f = f := by
  obtain ⟨k', rfl⟩ := ld_succ hf h hk
  rw [ldF, if_pos h, if_pos h2]
theorem ld_two {n f r : Int} {k : Nat} (hf : 2 ≤ f) (h : f * f ≤ n) (hk : n + 1 - f ≤ k) (h2 : Int.fmod n f ≠ 0) (h3 : f = 2) (hr : ldF n k f = r) (hf2 : f < 2 ^ 29) (hn : n < 2 ^ 28) :
    (2 ≤ f + 1 ∧ f + 1 < 2 ^ 29 ∧ n + 1 - (f + 1) ≤ ((k - 1 : Nat) : Int) ∧ ldF n (k - 1) (f + 1) = r) ∧ k - 1 < k := by
  have := ld_le hf h
  obtain ⟨k', rfl⟩ := ld_succ hf h hk
  rw [ldF, if_pos h, if_neg h2, if_pos h3] at hr
  refine ⟨⟨by omega, by omega, ?_, hr⟩, by omega⟩
  simp only [Nat.add_sub_cancel]
  omega
theorem ld_odd {n f r : Int} {k : Nat} (hf : 2 ≤ f) (h : f * f ≤ n) (hk : n + 1 - f ≤ k) (h2 : Int.fmod n f ≠ 0) (h3 : f ≠ 2) (hr : ldF n k f = r) (hf2 : f < 2 ^ 29) (hn : n < 2 ^ 28) :
    (2 ≤ f + 2 ∧ f + 2 < 2 ^ 29 ∧ n + 1 - (f + 2) ≤ ((k - 1 : Nat) : Int) ∧ ldF n (k - 1) (f + 2) = r) ∧ k - 1 < k := by
  have := ld_le hf h
  obtain ⟨k', rfl⟩ := ld_succ hf h hk
  rw [ldF, if_pos h, if_neg h2, if_neg h3] at hr
  refine ⟨⟨by omega, by omega, ?_, hr⟩, by omega⟩
  simp only [Nat.add_sub_cancel]
  omega
local macro_rules | `(tactic| walk_at "KswEnd") => `(tactic| refine stopN ?_)
local macro_rules | `(tactic| walk_at "KswPost") => `(tactic| dsimp only [OnePost, KswPost])
local macro_rules | `(tactic| walk_at "exec While Compare cons nil") => `(tactic| (k_here; refine stopN ?_))
set_option maxRecDepth 100000 in
set_option maxHeartbeats 8000000 in
theorem ld_c (w : World) (mean : ExcName → Option Value) (mg mb : Str → Option Value) (n b : Int) (tn tb : Tok) (hn : 0 ≤ n) (hn2 : n < 2 ^ 28) (hb : 2 ≤ b) (hb2 : b < 2 ^ 29) :
   CtrK w mean mg mb 91 [.int n tn, .int b tb] 4 (fun _ => True) (fun _ v _ => ∃ t, v = .int (ldF n (n + 1).toNat b) t) := by
  unfold CtrK TP KK PR
  w_top off
  k_fill
  intro dp un gd cn cs a ccd cl outer A₀ base h₀ L m s Q E B F X T hk hd hu _ hret
  refine wpAny_call ?_
  k_dflt (first | (refine' enter_plain ?k1Zk ?k2Zk ?k3Zk ?k5Zk ?kAZk ?kFZk ?kKZk ?k6Zk ?k7Zk ?k8Zk ?k9Zk ?kBZk ?_ ?c2Zk ?c3Zk ?c4Zk ?c5Zk; (case kAZk => exact rfl); (case kFZk => exact rfl); (case kKZk => assumption); (case k1Zk => k_asm); (case k2Zk => k_asm); (case k3Zk => k_asm); (case k5Zk => k_asm); (case k6Zk => k_is); (case k7Zk => k_is); (case k8Zk => ktr_room); (case k9Zk => exact BindsTo.of_eq rfl); (case c5Zk => decide); (case kBZk => exact locs rfl); (case c2Zk => exact rfl); (case c3Zk => exact rfl); (case c4Zk => exact rfl); k_whole; intro L' h' FG' F' N' B' X' T'; (try dsimp only); (try k_lift B'); (try k_fold)) | (refine' enter_cells ?k1Zk ?k2Zk ?k3Zk ?k5Zk ?kAZk ?kFZk ?kKZk ?k6Zk ?k7Zk ?k8Zk ?k9Zk ?kBZk ?kDZk ?_ ?c2Zk ?c3Zk ?c4Zk; (case kAZk => exact rfl); (case kFZk => exact rfl); (case kKZk => assumption); (case k1Zk => k_asm); (case k2Zk => k_asm); (case k3Zk => k_asm); (case k5Zk => k_asm); (case k6Zk => k_is); (case k7Zk => k_is); (case k8Zk => ktr_room); (case k9Zk => exact BindsTo.of_eq rfl); (case kBZk => exact rfl); (case kDZk => decide +kernel); (case c2Zk => exact rfl); (case c3Zk => exact rfl); (case c4Zk => exact rfl); k_whole; intro L' h' tk' cells' FG' F' N' Y' B' X' T'; k_cells Y'; (try simp only [List.cons_append, List.nil_append] at N'); (try dsimp only); (try k_lift B'); (try k_fold)))
  k_steps
  unfold StopN
  rename Fr s.heap _ _ _ => lF
  rename News s.heap _ _ _ => lN
  refine one_while (Str.ofString "found") (fun k f => 2 ≤ f ∧ f < 2 ^ 29 ∧ n + 1 - f ≤ k ∧ ldF n k f = ldF n (n + 1).toNat b) (n + 1).toNat lF lN (by with_unfolding_all rfl) ⟨hb, hb2, by omega, rfl⟩ ?_ (by first | passes_own | with_unfolding_all passes_own)
  rintro k f t h tk ⟨hf, hf2, hfu, hres⟩ F1 N1
  clear lF lN
  have hle := @ld_le n f hf
  k_steps
  · rw [ld_found hf (by assumption) hfu (by assumption)] at hres
    exact hret _ _ _ (Fr.keep (by assumption)) ⟨_, by rw [← hres]⟩
  · have q := ld_two hf (by assumption) hfu (by assumption) (by assumption) hres hf2 hn2
    unfold StopN
    refine one_end (x := Str.ofString "found") (P := fun k f => 2 ≤ f ∧ f < 2 ^ 29 ∧ n + 1 - f ≤ k ∧ ldF n k f = ldF n (n + 1).toNat b) (by assumption) (by assumption) (by intro p hp; exact hp) (by with_unfolding_all rfl) ?_ q.1 q.2
    intro z hz
    simp [hz]
  · have q := ld_odd hf (by assumption) hfu (by assumption) (by assumption) hres hf2 hn2
    unfold StopN
    refine one_end (x := Str.ofString "found") (P := fun k f => 2 ≤ f ∧ f < 2 ^ 29 ∧ n + 1 - f ≤ k ∧ ldF n k f = ldF n (n + 1).toNat b) (by assumption) (by assumption) (by intro p hp; exact hp) (by with_unfolding_all rfl) ?_ q.1 q.2
    intro z hz
    simp [hz]
  · rw [ld_none (by assumption)] at hres
    exact hret _ _ _ (Fr.keep (by assumption)) ⟨_, by rw [← hres]⟩
end Mine
end
section -- Pf0
open PySem PySem.W PySem.Calls PyProof.Rows PyProof.Rows.LCg
namespace Mine
-- plain facts
theorem fmod_of_fdiv {n p : Int} (h : Int.fmod n p = 0) : p * Int.fdiv n p = n := by
  have := Int.mul_fdiv_add_fmod n p; omega
theorem ldF_facts {n : Int} (hn : 2 ≤ n) : ∀ (k : Nat) (f : Int), 2 ≤ f → 2 ≤ ldF n k f ∧ ldF n k f ≤ n ∧ Int.fmod n (ldF n k f) = 0
  | 0, _, _ => ⟨hn, Int.le_refl _, by simp [ldF]⟩
  | k + 1, f, hf => by
    unfold ldF
    split
    · rename_i h
      split
      · exact ⟨hf, ld_le hf h, by assumption⟩
      · exact ldF_facts hn k _ (by split <;> omega)
    · exact ⟨hn, Int.le_refl _, by simp⟩
theorem div_step {n p : Int} (hp : 2 ≤ p) (hn : 1 ≤ n) (h : Int.fmod n p = 0) : 1 ≤ Int.fdiv n p ∧ Int.fdiv n p < n := by
  have e := fmod_of_fdiv h
  generalize Int.fdiv n p = q at *
  have h1 : 1 ≤ q := by
    by_cases c : q < 1
    · have := Int.mul_le_mul_of_nonneg_left (show q ≤ 0 by omega) (show 0 ≤ p by omega)
      simp at this; omega
    · omega
  have h2 : 2 * q ≤ p * q := Int.mul_le_mul_of_nonneg_right hp (by omega)
  exact ⟨h1, by omega⟩
theorem dv_step {p n m r1 r2 : Int} {k : Nat} (hp : 2 ≤ p) (hn : 1 ≤ n) (hk : n ≤ k) (h : Int.fmod n p = 0) (hr : dvF p k n m = (r1, r2)) :
    1 ≤ Int.fdiv n p ∧ Int.fdiv n p < n ∧ Int.fdiv n p ≤ ((k - 1 : Nat) : Int) ∧ dvF p (k - 1) (Int.fdiv n p) (m + 1) = (r1, r2) ∧ k - 1 < k := by
  obtain ⟨a, b⟩ := div_step hp hn h
  obtain ⟨k', rfl⟩ : ∃ k', k = k' + 1 := ⟨k - 1, by omega⟩
  rw [dvF, if_pos h] at hr
  refine ⟨a, b, ?_, hr, by omega⟩
  simp only [Nat.add_sub_cancel]; omega
theorem dv_none {p n m : Int} {k : Nat} (h : Int.fmod n p ≠ 0) : dvF p k n m = (n, m) := by
  cases k with
  | zero => rfl
  | succ k => rw [dvF, if_neg h]
theorem pf_none {n b : Int} {k : Nat} {acc : List (Int × Int)} (h : ¬ 1 < n) : pfF k n b acc = acc := by
  cases k with
  | zero => rfl
  | succ k => rw [pfF, if_neg h]
theorem pf_step {n b p r1 r2 : Int} {k : Nat} {acc res : List (Int × Int)} (h : 1 < n) (hk : n ≤ k) (hr : pfF k n b acc = res) (hp : p = ldF n (n + 1).toNat b) (hd : dvF p n.toNat n 0 = (r1, r2)) :
    ∃ k', k = k' + 1 ∧ pfF k' r1 (if p = 2 then 3 else p + 2) (acc ++ [(p, r2)]) = res := by
  obtain ⟨k', rfl⟩ : ∃ k', k = k' + 1 := ⟨k - 1, by omega⟩
  rw [pfF, if_pos h] at hr
  subst hp
  simp only [hd] at hr
  exact ⟨k', rfl, hr⟩

abbrev tupOf2 (vs : List Value) : Obj := { cls := .type "tuple", data := .seq vs.toArray }
inductive PrsL (tups : List (Addr × Obj)) : List Value → List (Int × Int) → Prop
  | nil : PrsL tups [] []
  | cons {T : Addr} {p k : Int} {t t' : Tok} {vs : List Value} {ps : List (Int × Int)} : (T, tupOf2 [.int p t, .int k t']) ∈ tups → PrsL tups vs ps → PrsL tups (.ref T :: vs) ((p, k) :: ps)
theorem PrsL.mono {tups tups' : List (Addr × Obj)} {vs : List Value} {ps : List (Int × Int)} (h : PrsL tups vs ps) (hs : ∀ p ∈ tups, p ∈ tups') : PrsL tups' vs ps := by
  induction h with
  | nil => exact .nil
  | cons hm _ ih => exact .cons (hs _ hm) ih
theorem PrsL.snoc {tups : List (Addr × Obj)} {vs : List Value} {ps : List (Int × Int)} {T : Addr} {p k : Int} {t t' : Tok} (h : PrsL tups vs ps) (hm : (T, tupOf2 [.int p t, .int k t']) ∈ tups) : PrsL tups (vs ++ [.ref T]) (ps ++ [(p, k)]) := by
  induction h with
  | nil => exact .cons hm .nil
  | cons hm' _ ih => exact .cons hm' ih
theorem PrsL.length {tups : List (Addr × Obj)} {vs : List Value} {ps : List (Int × Int)} (h : PrsL tups vs ps) : vs.length = ps.length := by
  induction h with
  | nil => rfl
  | cons _ _ ih => simp [ih]
inductive PrsH (H h : Heap) : List Value → List (Int × Int) → Prop
  | nil : PrsH H h [] []
  | cons {T : Addr} {p k : Int} {t t' : Tok} {vs : List Value} {ps : List (Int × Int)} : h.get? T = some (tupOf2 [.int p t, .int k t']) → H.get? T = none → PrsH H h vs ps → PrsH H h (.ref T :: vs) ((p, k) :: ps)
theorem PrsL.heap {H h : Heap} {L : Addr} {tups : List (Addr × Obj)} {vs : List Value} {ps : List (Int × Int)} (N : News H L h tups) (h' : PrsL tups vs ps) : PrsH H h vs ps := by
  induction h' with
  | nil => exact .nil
  | cons hm _ ih => exact .cons (N _ hm).1 (N _ hm).2.2 ih

structure PS where
  k : Nat
  n : Int
  p : Int
  tn : Tok
  tp : Tok
  vs : List Value
  cap : Nat
  tups : List (Addr × Obj)
  acc : List (Int × Int)
abbrev PS.led (fl : Addr) (c : PS) : List (Addr × Obj) := (fl, listOf c.vs.toArray c.cap) :: c.tups
abbrev PS.facts (fl : Addr) (c : PS) : Prop := PrsL c.tups c.vs c.acc ∧ ∀ p ∈ c.tups, p.1 ≠ fl
abbrev PS.names (c : PS) : List (Str × Value) := [(Str.ofString "n", .int c.n c.tn), (Str.ofString "prime", .int c.p c.tp)]
abbrev PS.word (N0 : Nat) (res : List (Int × Int)) (c : PS) : Prop := 1 ≤ c.n ∧ c.n < 2 ^ 22 ∧ 2 ≤ c.p ∧ c.p < 2 ^ 23 ∧ c.n ≤ c.k ∧ c.acc.length + c.k ≤ N0 ∧ pfF c.k c.n c.p c.acc = res

section
variable {prog : Program} {w : World} {A : Around} {E : Value → Shared → Prop} {Q : Flow → Shared → Prop} {s : Shared} {env : Env} {h₀ : Heap} {L : Addr} {fl : Addr} {N0 : Nat} {res : List (Int × Int)}
abbrev PPost (h₀ : Heap) (L : Addr) (s : Shared) (fl : Addr) (N0 : Nat) (res : List (Int × Int)) (m₀ : Str → Option Value) (Q : Flow → Shared → Prop) (c : PS) : Flow → Shared → Prop :=
  KswPost h₀ L s (PS.led fl) PS.names (PS.facts fl) [Str.ofString "many"] m₀ (PS.word N0 res) PS.k Q c
theorem pf_while {test : PySem.Expr} {body : List Stmt} {pos : Pos} {m₀ : Str → Option Value} {n : Int} {tn tp : Tok} {cap : Nat}
    (F : Fr h₀ L s.heap m₀) (N : News h₀ L s.heap [(fl, listOf #[] cap)]) (hn : m₀ (Str.ofString "n") = some (.int n tn)) (hp : m₀ (Str.ofString "prime") = some (.int 2 tp)) (hf : m₀ (Str.ofString "found") = some (.ref fl)) (h1 : 1 ≤ n) (h2 : n < 2 ^ 22) (hN : n.toNat ≤ N0) (hr : pfF n.toNat n 2 [] = res)
    (turn : ∀ (k : Nat) (n p : Int) (tn tp : Tok) (vs : List Value) (cap : Nat) (tups : List (Addr × Obj)) (acc : List (Int × Int)) (u : Str → Option Value) h tk, PrsL tups vs acc → (∀ p ∈ tups, p.1 ≠ fl) → PS.word N0 res ⟨k, n, p, tn, tp, vs, cap, tups, acc⟩ →
      Fr h₀ L h (fun z => if z = Str.ofString "n" then some (.int n tn) else if z = Str.ofString "prime" then some (.int p tp) else if [Str.ofString "many"].contains z then u z else m₀ z) → News h₀ L h ((fl, listOf vs.toArray cap) :: tups) →
      wpAny (model prog w) A (isTrue test env (eval test env)) (fun b s₂ => if b = true then wpAny (model prog w) A (execs body env) (PPost h₀ L s fl N0 res m₀ Q ⟨k, n, p, tn, tp, vs, cap, tups, acc⟩) E s₂ else Q .next s₂) E { s with heap := h, toks := tk })
    (hE : PassesOwn (model prog w) A env E) : wpAny (model prog w) A (exec (.While test body [] pos) env) Q E s := by
  refine ksw_while (PS.led fl) PS.names (PS.facts fl) [Str.ofString "many"] (PS.word N0 res) PS.k ⟨n.toNat, n, 2, tn, tp, [], cap, [], []⟩ F N ⟨.nil, fun _ h => nomatch h⟩ ?_ ⟨h1, h2, (show (2 : Int) ≤ 2 by decide), (show (2 : Int) < 2 ^ 23 by decide), by show n ≤ (n.toNat : Int); omega, by simpa using hN, hr⟩ ?_ hE
  · intro p hp'
    simp only [PS.names, List.mem_cons, List.not_mem_nil, or_false] at hp'
    rcases hp' with rfl | rfl
    · exact hn
    · exact hp
  · rintro ⟨k, n, p, tn, tp, vs, cap, tups, acc⟩ u h tk ⟨hP, hne⟩ hw F' N'
    exact turn k n p tn tp vs cap tups acc u h tk hP hne hw F' N'
theorem pf_end {c : PS} {m₀ m' : Str → Option Value} {all : List (Addr × Obj)} {h' : Heap} {tk : Nat} {k : Nat} {n p : Int} {tn tp : Tok} {vs : List Value} {cap : Nat} {tups : List (Addr × Obj)} {acc : List (Int × Int)}
    (F : Fr h₀ L h' m') (N : News h₀ L h' all) (hs : ∀ q ∈ (fl, listOf vs.toArray cap) :: tups, q ∈ all) (hP : PrsL tups vs acc) (hne : ∀ p ∈ tups, p.1 ≠ fl) (hn : m' (Str.ofString "n") = some (.int n tn)) (hp : m' (Str.ofString "prime") = some (.int p tp))
    (hr : ∀ z, z ≠ Str.ofString "n" → z ≠ Str.ofString "prime" → [Str.ofString "many"].contains z = false → m' z = m₀ z) (hw : PS.word N0 res ⟨k, n, p, tn, tp, vs, cap, tups, acc⟩) (hk : k < c.k) :
    KswEnd h₀ L s (PS.led fl) PS.names (PS.facts fl) [Str.ofString "many"] m₀ (PS.word N0 res) PS.k c { s with heap := h', toks := tk } := by
  refine ksw_end ⟨k, n, p, tn, tp, vs, cap, tups, acc⟩ F N hs ⟨hP, hne⟩ ?_ ?_ hw hk
  · intro q hq
    simp only [PS.names, List.mem_cons, List.not_mem_nil, or_false] at hq
    rcases hq with rfl | rfl
    · exact hn
    · exact hp
  · intro z hz
    exact hr z (hz (Str.ofString "n", .int n tn) (by simp)) (hz (Str.ofString "prime", .int p tp) (by simp))

/-- a while over two ints, the ledger standing -/
abbrev TwoPost (h₀ : Heap) (L : Addr) (s : Shared) (x y : Str) (news : List (Addr × Obj)) (m₀ : Str → Option Value) (P : Nat → Int → Int → Prop) (Q : Flow → Shared → Prop) (c : Nat × Int × Int × Tok × Tok) : Flow → Shared → Prop :=
  KswPost h₀ L s (fun _ => news) (fun c => [(x, .int c.2.1 c.2.2.2.1), (y, .int c.2.2.1 c.2.2.2.2)]) (fun _ => True) [] m₀ (fun c => P c.1 c.2.1 c.2.2.1) (fun c => c.1) Q c
theorem two_while {test : PySem.Expr} {body : List Stmt} {pos : Pos} {m₀ : Str → Option Value} {news : List (Addr × Obj)} (x y : Str) (P : Nat → Int → Int → Prop) {f₀ g₀ : Int} {t₀ u₀ : Tok} (k₀ : Nat)
    (F : Fr h₀ L s.heap m₀) (N : News h₀ L s.heap news) (hx : m₀ x = some (.int f₀ t₀)) (hy : m₀ y = some (.int g₀ u₀)) (hp : P k₀ f₀ g₀)
    (turn : ∀ k f g t t' h tk, P k f g → Fr h₀ L h (fun z => if z = x then some (.int f t) else if z = y then some (.int g t') else m₀ z) → News h₀ L h news →
      wpAny (model prog w) A (isTrue test env (eval test env)) (fun b s₂ => if b = true then wpAny (model prog w) A (execs body env) (TwoPost h₀ L s x y news m₀ P Q (k, f, g, t, t')) E s₂ else Q .next s₂) E { s with heap := h, toks := tk })
    (hE : PassesOwn (model prog w) A env E) : wpAny (model prog w) A (exec (.While test body [] pos) env) Q E s := by
  refine ksw_while (fun _ => news) (fun c : Nat × Int × Int × Tok × Tok => [(x, .int c.2.1 c.2.2.2.1), (y, .int c.2.2.1 c.2.2.2.2)]) (fun _ => True) [] (fun c => P c.1 c.2.1 c.2.2.1) (fun c => c.1) (k₀, f₀, g₀, t₀, u₀) F N trivial ?_ hp ?_ hE
  · intro p hp
    simp only [List.mem_cons, List.not_mem_nil, or_false] at hp
    rcases hp with rfl | rfl
    · exact hx
    · exact hy
  · rintro ⟨k, f, g, t, t'⟩ u h tk _ hP F' N'
    exact turn k f g t t' h tk hP F' N'
theorem two_end {m₀ m' : Str → Option Value} {news all : List (Addr × Obj)} {x y : Str} {P : Nat → Int → Int → Prop} {k k' : Nat} {f f' g g' : Int} {t t' u u' : Tok} {h' : Heap} {tk : Nat} (F : Fr h₀ L h' m') (N : News h₀ L h' all) (hn : ∀ p ∈ news, p ∈ all)
    (hx : m' x = some (.int f' t')) (hy : m' y = some (.int g' u')) (hr : ∀ z, z ≠ x → z ≠ y → m' z = m₀ z) (hp : P k' f' g') (hk : k' < k) :
    KswEnd h₀ L s (fun _ => news) (fun c : Nat × Int × Int × Tok × Tok => [(x, .int c.2.1 c.2.2.2.1), (y, .int c.2.2.1 c.2.2.2.2)]) (fun _ => True) [] m₀ (fun c => P c.1 c.2.1 c.2.2.1) (fun c => c.1) (k, f, g, t, u) { s with heap := h', toks := tk } := by
  refine ksw_end (k', f', g', t', u') F N hn trivial ?_ ?_ hp hk
  · intro p hp
    simp only [List.mem_cons, List.not_mem_nil, or_false] at hp
    rcases hp with rfl | rfl
    · exact hx
    · exact hy
  · intro z hz _
    exact hr z (hz (x, .int f' t') (by simp)) (hz (y, .int g' u') (by simp))
end
section
variable {w : World} {mean : ExcName → Option Value} {mg mb : Str → Option Value} {dp un : Nat} {gd : Option (List Code)} {cn : Str} {cs : Scope} {a : Addr} {ccd : Value} {cl : List (Str × Addr)} {outer : List Env} {A₀ : Around} {base h₀ : Heap} {L : Addr} {m : Str → Option Value} {s : Shared} {Q E : Value → Shared → Prop} {news : List (Addr × Obj)}
theorem ld_use {n b : Int} {tn tb : Tok} (B : Below A₀ base outer h₀) (F : Fr h₀ L s.heap m) (N : News h₀ L s.heap news) (X : (hd.heap_39 w.params).In h₀) (T : Top hd.view_39 (looseW hd.view_39 []) mean mg mb h₀) (hk : cs.kind = .function)
    (hd : dp + 4 < recursionLimit) (hu : un + 8 * 4 < cLine) (hn : 0 ≤ n) (hn2 : n < 2 ^ 28) (hb : 2 ≤ b) (hb2 : b < 2 ^ 29)
    (ret : ∀ t h' tk', Fr h₀ L h' m → News h₀ L h' news → Q (.int (ldF n (n + 1).toNat b) t) { s with heap := h', toks := tk' }) :
    wpAny (model PySem.Challenge.rw_sy0001_01.row.prog w) (ktrTop dp un gd cn cs L a ccd cl outer) (call (.ref 91) [.int n tn, .int b tb]) Q E s :=
  (ld_c w mean mg mb n b tn tb hn hn2 hb hb2) dp un gd cn cs a ccd cl outer A₀ base h₀ L m s Q E B F X T hk hd hu trivial fun v h' tk' hk' hp => by
    obtain ⟨t, rfl⟩ := hp
    exact ret t h' tk' (F.keeps hk') (N.grown hk')
end
end Mine
end
section -- Pf
open PySem PySem.W PySem.Calls PyProof.Rows PyProof.Rows.LCg
namespace Mine
local macro_rules | `(tactic| k_all) => `(tactic| assumption)
local macro_rules | `(tactic| walk_at "KswEnd") => `(tactic| refine stopN ?_)
local macro_rules | `(tactic| walk_at "KswPost") => `(tactic| dsimp only [PPost, TwoPost, KswPost])
local macro_rules | `(tactic| walk_at "exec While Compare cons nil") => `(tactic| (k_here; refine stopN ?_))
local macro_rules | `(tactic| walk_at "call ref") => `(tactic| (k_here; refine stopN ?_))
def PfPost (n : Int) (H : Heap) (v : Value) (h : Heap) : Prop :=
  ∃ fl vs cap, v = .ref fl ∧ h.get? fl = some (listOf vs.toArray cap) ∧ H.get? fl = none ∧ PrsH H h vs (facs n)
theorem pf_next {h₀ : Heap} {L : Addr} {s : Shared} {fl : Addr} {N0 : Nat} {res : List (Int × Int)} {c : PS} {m₀ mm : Str → Option Value} {h' : Heap} {tk : Nat} {k : Nat} {n p q n' m' b' r1 r2 : Int} {tn tp t9 t' : Tok} {vs : List Value} {cap : Nat} {tups : List (Addr × Obj)} {acc : List (Int × Int)} {D : Addr}
    (F : Fr h₀ L h' mm) (N : PyProof.Rows.News h₀ L h' ((D, tupOf2 [.int q t9, .int m' t']) :: (fl, listOf (vs.toArray.push (.ref D)) (cap + 1)) :: tups)) (hD : @Ne Nat D fl) (hP : PrsL tups vs acc) (hne : ∀ p ∈ tups, p.1 ≠ fl)
    (hn : mm (Str.ofString "n") = some (.int n' tn)) (hp : mm (Str.ofString "prime") = some (.int b' tp)) (hr : ∀ z, z ≠ Str.ofString "n" → z ≠ Str.ofString "prime" → [Str.ofString "many"].contains z = false → mm z = m₀ z)
    (w1 : 1 < n) (w2 : n < 2 ^ 22) (w5 : n ≤ k) (w6 : acc.length + k ≤ N0) (w7 : pfF k n p acc = res) (hq : ldF n (n + 1).toNat p = q) (q1 : 2 ≤ q) (q2 : q ≤ n) (q3 : Int.fmod n q = 0) (hd : dvF q n.toNat n 0 = (r1, r2))
    (v1 : 1 ≤ n') (v2 : n' ≤ n) (v4 : dvF q k' n' m' = (r1, r2)) (hno : Int.fmod n' q ≠ 0) (hb : b' = if q = 2 then 3 else q + 2) (hck : c.k = k) :
    KswEnd h₀ L s (PS.led fl) PS.names (PS.facts fl) [Str.ofString "many"] m₀ (PS.word N0 res) PS.k c { s with heap := h', toks := tk } := by
  rw [dv_none hno] at v4
  obtain ⟨rfl, rfl⟩ := Prod.mk.inj v4
  obtain ⟨k1, rfl, hres⟩ := pf_step w1 w5 w7 hq.symm hd
  have hnn : n' ≠ n := fun e => hno (e ▸ q3)
  have hb2 : 2 ≤ b' ∧ b' < 2 ^ 23 := by rw [hb]; split <;> omega
  refine pf_end (k := k1) (n := n') (p := b') (vs := vs ++ [.ref D]) (cap := cap + 1) (tups := (D, tupOf2 [.int q t9, .int m' t']) :: tups) (acc := acc ++ [(q, m')]) F N ?_ ((hP.mono fun p h => .tail _ h).snoc (.head _)) ?_ hn hp hr ?_ (by rw [hck]; exact Nat.lt_succ_self _)
  · intro x hx
    rcases List.mem_cons.mp hx with rfl | hx
    · rw [List.push_toArray]; exact .tail _ (.head _)
    · rcases List.mem_cons.mp hx with rfl | hx
      · exact .head _
      · exact .tail _ (.tail _ hx)
  · intro x hx
    rcases List.mem_cons.mp hx with rfl | hx
    · exact hD
    · exact hne x hx
  · refine ⟨v1, by show n' < _; omega, hb2.1, hb2.2, by show n' ≤ (k1 : Int); omega, ?_, ?_⟩
    · show (acc ++ [(q, m')]).length + k1 ≤ N0
      rw [List.length_append, List.length_singleton]; omega
    · show pfF k1 n' b' (acc ++ [(q, m')]) = res
      rw [hb]; exact hres
theorem News.tail {h₀ h : Heap} {L : Addr} {p : Addr × Obj} {l : List (Addr × Obj)} (N : PyProof.Rows.News h₀ L h (p :: l)) : PyProof.Rows.News h₀ L h l := fun q hq => N q (.tail _ hq)
set_option maxRecDepth 100000 in
set_option maxHeartbeats 8000000 in
theorem pf_c (w : World) (mean : ExcName → Option Value) (mg mb : Str → Option Value) (n0 : Int) (tn : Tok) (hn : 1 ≤ n0) (hn2 : n0 < 2 ^ 22) :
   CtrK w mean mg mb 98 [.int n0 tn] 6 (fun _ => True) (PfPost n0) := by
  unfold CtrK TP KK PR
  w_top off
  k_fill
  intro dp un gd cn cs a ccd cl outer A₀ base h₀ L m s Q E B F X T hk hd hu _ hret
  refine wpAny_call ?_
  k_dflt (first | (refine' enter_plain ?k1Zk ?k2Zk ?k3Zk ?k5Zk ?kAZk ?kFZk ?kKZk ?k6Zk ?k7Zk ?k8Zk ?k9Zk ?kBZk ?_ ?c2Zk ?c3Zk ?c4Zk ?c5Zk; (case kAZk => exact rfl); (case kFZk => exact rfl); (case kKZk => assumption); (case k1Zk => k_asm); (case k2Zk => k_asm); (case k3Zk => k_asm); (case k5Zk => k_asm); (case k6Zk => k_is); (case k7Zk => k_is); (case k8Zk => ktr_room); (case k9Zk => exact BindsTo.of_eq rfl); (case c5Zk => decide); (case kBZk => exact locs rfl); (case c2Zk => exact rfl); (case c3Zk => exact rfl); (case c4Zk => exact rfl); k_whole; intro L' h' FG' F' N' B' X' T'; (try dsimp only); (try k_lift B'); (try k_fold)) | (refine' enter_cells ?k1Zk ?k2Zk ?k3Zk ?k5Zk ?kAZk ?kFZk ?kKZk ?k6Zk ?k7Zk ?k8Zk ?k9Zk ?kBZk ?kDZk ?_ ?c2Zk ?c3Zk ?c4Zk; (case kAZk => exact rfl); (case kFZk => exact rfl); (case kKZk => assumption); (case k1Zk => k_asm); (case k2Zk => k_asm); (case k3Zk => k_asm); (case k5Zk => k_asm); (case k6Zk => k_is); (case k7Zk => k_is); (case k8Zk => ktr_room); (case k9Zk => exact BindsTo.of_eq rfl); (case kBZk => exact rfl); (case kDZk => decide +kernel); (case c2Zk => exact rfl); (case c3Zk => exact rfl); (case c4Zk => exact rfl); k_whole; intro L' h' tk' cells' FG' F' N' Y' B' X' T'; k_cells Y'; (try simp only [List.cons_append, List.nil_append] at N'); (try dsimp only); (try k_lift B'); (try k_fold)))
  k_steps
  unfold StopN
  rename Fr s.heap _ _ _ => lF
  rename News s.heap _ _ _ => lN
  refine' pf_while (N0 := n0.toNat) (res := facs n0) lF ?N ?g1 ?g2 ?g3 hn hn2 (Nat.le_refl _) rfl ?turn ?hE
  case g1 => with_unfolding_all rfl
  case g2 => with_unfolding_all rfl
  case g3 => with_unfolding_all rfl
  case hE => first | passes_own | with_unfolding_all passes_own
  case N => exact fun p hp => lN p (by rw [List.mem_singleton.mp hp]; k_dflt k_mem)
  case turn =>
    intro k n p tn tp vs cap tups acc u h tk hP hne hw F1 N1
    obtain ⟨w1, w2, w3, w4, w5, w6, w7⟩ := hw
    dsimp only at w1 w2 w3 w4 w5 w6 w7
    clear lF lN
    have hlen := hP.length
    have hsz : vs.toArray.size ≤ sizeLine := by rw [List.size_toArray, hlen, sizeLine_eq]; omega
    k_steps
    unfold StopN
    with_reducible (with_reducible show wpAny _ _ (call (Value.ref 91) [Value.int _ _, Value.int _ _]) _ _ _); (k_dflt ((refine' ld_use ?k1 ?k2 ?k3 ?k4 ?k5 ?kK ?kd ?ku ?ka ?kb ?kc ?ke ?_); (case k1 => k_asm); (case k2 => k_asm); (case k3 => k_asm); (case k4 => k_asm); (case k5 => k_asm); (case kK => first | exact rfl | assumption); (case kd => ktr_room); (case ku => ktr_units); (case ka => omega); (case kb => omega); (case kc => omega); (case ke => omega); intro t9 h9 tk9 F9 N9; (try k_fold)))
    k_steps
    · unfold StopN
      obtain ⟨q1, q2, q3⟩ := ldF_facts (n := n) (by omega) (n + 1).toNat p w3
      rename Fr s.heap _ _ _ => lF
      rename PyProof.Rows.News s.heap _ _ _ => lN
      generalize hq : ldF n (n + 1).toNat p = q at *
      obtain ⟨r1, r2, hd'⟩ : ∃ r1 r2, dvF q n.toNat n 0 = (r1, r2) := ⟨_, _, rfl⟩
      have lN2 := News.tail lN
      refine two_while (Str.ofString "n") (Str.ofString "many") (fun k' n' m' => 1 ≤ n' ∧ n' ≤ n ∧ n' ≤ k' ∧ dvF q k' n' m' = (r1, r2)) n.toNat lF lN2 (by with_unfolding_all rfl) (by with_unfolding_all rfl) ⟨w1, Int.le_refl _, by omega, hd'⟩ ?_ (by first | passes_own | with_unfolding_all passes_own)
      rintro k' n' m' t t' h' tk' ⟨v1, v2, v3, v4⟩ F2 N2
      clear lF lN lN2
      k_steps
      · unfold StopN
        obtain ⟨d1, d2, d3, d4, d5⟩ := dv_step q1 v1 v3 (by assumption) v4
        rename Fr s.heap _ _ _ => lF
        rename PyProof.Rows.News s.heap _ _ _ => lN
        exact two_end (x := Str.ofString "n") (y := Str.ofString "many") (P := fun k' n' m' => 1 ≤ n' ∧ n' ≤ n ∧ n' ≤ k' ∧ dvF q k' n' m' = (r1, r2)) lF (News.tail lN) (by intro p hp; exact hp) (by with_unfolding_all rfl) (by with_unfolding_all rfl) (by intro z h1 h2; simp [h1, h2]) ⟨d1, by omega, d3, d4⟩ d5
      · unfold StopN
        rename Fr s.heap _ _ _ => lF
        rename PyProof.Rows.News s.heap _ _ _ => lN
        exact pf_next lF lN (by omega) hP hne (by with_unfolding_all rfl) (by with_unfolding_all rfl) (by intro z h1 h2 h3; (simp only [List.contains_cons, List.contains_nil, Bool.or_false, beq_eq_false_iff_ne, ne_eq] at h3); simp [h1, h2, h3]) (by assumption) w2 w5 w6 w7 hq q1 q2 q3 hd' v1 v2 v4 (by assumption) (by rw [if_pos (by assumption)]) rfl
      · unfold StopN
        rename Fr s.heap _ _ _ => lF
        rename PyProof.Rows.News s.heap _ _ _ => lN
        exact pf_next lF lN (by omega) hP hne (by with_unfolding_all rfl) (by with_unfolding_all rfl) (by intro z h1 h2 h3; (simp only [List.contains_cons, List.contains_nil, Bool.or_false, beq_eq_false_iff_ne, ne_eq] at h3); simp [h1, h2, h3]) (by assumption) w2 w5 w6 w7 hq q1 q2 q3 hd' v1 v2 v4 (by assumption) (by rw [if_neg (by assumption)]) rfl
    · rw [pf_none (by assumption)] at w7
      subst w7
      rename Fr s.heap _ _ _ => lF
      exact hret _ _ _ lF.keep ⟨_, vs, cap, rfl, (N1 _ (.head _)).1, (N1 _ (.head _)).2.2, hP.heap (News.tail N1)⟩
end Mine
end
section -- Pow
set_option maxRecDepth 100000
open PySem PySem.W PySem.Calls PyProof.Rows PyProof.V PySem.Spec PyProof.Rows.LCg
namespace Mine
section
variable {prog : Program} {w : World} {A : Around} {E : Value → Shared → Prop} {s : Shared}

abbrev E2 (elt t0 i0 t1 i1 : PySem.Expr) (scope : Scope) (pos : Pos) : PySem.Expr := .ListComp elt [⟨t0, i0, [], 0⟩, ⟨t1, i1, [], 0⟩] scope pos
theorem c2_turn1 (elt t0 i0 t1 i1 : PySem.Expr) (scope : Scope) (pos : Pos) (it acc : Value) (env : Env) :
    compTurn (E2 elt t0 i0 t1 i1 scope pos) 1 it acc env = (standAt i1.pos >>= fun _ => pyNext it >>= fun r => match r with
      | none => pure (.done .next)
      | some v => letOwnedTupleGo t1 it v >>= fun _ => assign t1 env v >>= fun _ =>
        (eval elt env >>= fun x => call (.builtin "list.append") [acc, x] >>= fun _ => pure ()) >>= fun _ =>
          again (.compLoop (E2 elt t0 i0 t1 i1 scope pos) 1 it acc env)) := by rfl
theorem c2_turn0 (elt t0 i0 t1 i1 : PySem.Expr) (scope : Scope) (pos : Pos) (it acc : Value) (env : Env) :
    compTurn (E2 elt t0 i0 t1 i1 scope pos) 0 it acc env = (do
      standAt i0.pos
      match ← pyNext it with
      | none => pure (.done .next)
      | some v =>
        letOwnedTupleGo t0 it v
        assign t0 env v
        let mut ok := true
        for c in ([] : List PySem.Expr) do
          if ok then ok ← isTrue c env (eval c env)
        if ok then
          let x ← eval i1 env
          standAt i1.pos
          let x ← foldedSetIterable i1 env x
          let _ ← runOwn (.compStart (E2 elt t0 i0 t1 i1 scope pos) 1 (← holding [x] (pyIter x)) acc env) env
        again (.compLoop (E2 elt t0 i0 t1 i1 scope pos) 0 it acc env)) := by rfl

theorem c2_start1 {elt t0 i0 t1 i1 : PySem.Expr} {scope : Scope} {pos : Pos} {it acc : Value} {env : Env} {R : Result → Shared → Prop}
    (h0 : codeAny (model prog w) A (.compLoop (E2 elt t0 i0 t1 i1 scope pos) 1 it acc env) R s)
    (h : wpAny (model prog w) A (pyIter it) (fun it' s' => codeAny (model prog w) A (.compLoop (E2 elt t0 i0 t1 i1 scope pos) 1 it' acc env) R s') (notedBy (model prog w) A env fun x s' => R (.error x) s') s) :
    codeAny (model prog w) A (.compStart (E2 elt t0 i0 t1 i1 scope pos) 1 it acc env) R s := by
  refine codeAny_of_tree ?_
  show wpAny _ _ ((compStart (E2 elt t0 i0 t1 i1 scope pos) 1 it acc env).onRaise (fun x => do noteFrame x env; standAt theWindowsPlace)) _ _ s
  refine wpAny_notedAt ?_
  unfold compStart
  show wpAny _ _ (ask >>= _) _ _ s
  refine wpAny_bind (wpAny_askSetting (wpAny_ite ?_))
  split
  · first
      | exact wpAny_bind (wpAny_pure (wpAny_pure (And.intro rfl h0)))
      | exact wpAny_pure (And.intro rfl h0)
  · refine wpAny_bind (wpAny_rule ?_)
    show wpAny _ _ (standAt i1.pos >>= _) _ _ s
    exact wpAny_bind (wpAny_standAt (wpAny_bind (wpAny_mono h (fun it' s' h' => wpAny_pure (And.intro rfl h')) fun _ _ x => x)))

theorem c2_loop1 {elt t0 i0 t1 i1 : PySem.Expr} {scope : Scope} {pos : Pos} {it acc : Value} {env : Env} {R : Result → Shared → Prop} (I : Nat → Shared → Prop)
    (turn : ∀ n s, I n s → wpAny (model prog w) A (pyNext it) (fun r s₁ => match r with
      | none => R (.ok .next) s₁
      | some v => wpAny (model prog w) A (letOwnedTupleGo t1 it v) (fun _ s₀ => wpAny (model prog w) A (assign t1 env v) (fun _ s₂ =>
          wpAny (model prog w) A (eval elt env) (fun x s₄ =>
            wpAny (model prog w) A (call (.builtin "list.append") [acc, x]) (fun _ s₅ => ∃ m, m < n ∧ I m s₅) (notedBy (model prog w) A env fun e s' => R (.error e) s') s₄) (notedBy (model prog w) A env fun e s' => R (.error e) s') s₂)
          (notedBy (model prog w) A env fun e s' => R (.error e) s') s₀) (notedBy (model prog w) A env fun e s' => R (.error e) s') s₁) (notedBy (model prog w) A env fun e s' => R (.error e) s') s)
    (n : Nat) (h : I n s) : codeAny (model prog w) A (.compLoop (E2 elt t0 i0 t1 i1 scope pos) 1 it acc env) R s := by
  refine codeAny_loop rfl I (fun n s hI => ?_) n h
  show wpAny _ A ((compTurn (E2 elt t0 i0 t1 i1 scope pos) 1 it acc env).onRaise (fun x => do noteFrame x env; theTreesLotGoes x)) _ _ s
  refine wpAny_noted ?_
  rw [c2_turn1]
  refine wpAny_bind (wpAny_standAt (wpAny_bind (wpAny_mono (turn n s hI) (fun r s₁ h₁ => ?_) fun _ _ h' => h')))
  cases r with
  | none => exact wpAny_pure h₁
  | some v =>
    refine wpAny_bind (wpAny_mono h₁ (fun _ s₀ h₀' => ?_) fun _ _ h' => h')
    refine wpAny_bind (wpAny_mono h₀' (fun _ s₂ h₂ => ?_) fun _ _ h' => h')
    exact wpAny_bind (wpAny_bind (wpAny_mono h₂ (fun x s₄ h₄ => wpAny_bind (wpAny_mono h₄ (fun _ s₅ h₅ => wpAny_pure (wpAny_pure ⟨rfl, h₅⟩)) fun _ _ h' => h')) fun _ _ h' => h'))

theorem c2_loop0 {elt t0 i0 t1 i1 : PySem.Expr} {scope : Scope} {pos : Pos} {it acc : Value} {env : Env} {R : Result → Shared → Prop} (hs : ∀ x, foldedSetIterable i1 env x = pure x) (I : Nat → Shared → Prop)
    (turn : ∀ n s (E' : Value → Shared → Prop), I n s → wpAny (model prog w) A (pyNext it) (fun r s₁ => match r with
      | none => R (.ok .next) s₁
      | some v => wpAny (model prog w) A (letOwnedTupleGo t0 it v) (fun _ s₀ => wpAny (model prog w) A (assign t0 env v) (fun _ s₂ =>
          wpAny (model prog w) A (eval i1 env) (fun x s₃ => wpAny (model prog w) A (pyIter x) (fun it1 s₄ =>
            codeAny (model prog w) (A.mark none) (.compStart (E2 elt t0 i0 t1 i1 scope pos) 1 it1 acc env) (fun r s₅ => match r with | .ok _ => ∃ m, m < n ∧ I m s₅ | .error _ => False) s₄) E' s₃) E' s₂) E' s₀) E' s₁) E' s)
    (n : Nat) (h : I n s) : codeAny (model prog w) A (.compLoop (E2 elt t0 i0 t1 i1 scope pos) 0 it acc env) R s := by
  refine codeAny_loop rfl I (fun n s hI => ?_) n h
  show wpAny _ A ((compTurn (E2 elt t0 i0 t1 i1 scope pos) 0 it acc env).onRaise (fun x => do noteFrame x env; theTreesLotGoes x)) _ _ s
  refine wpAny_noted ?_
  rw [c2_turn0]
  refine wpAny_bind (wpAny_standAt (wpAny_bind (wpAny_mono (turn n s _ hI) (fun r s₁ h₁ => ?_) fun _ _ h' => h')))
  cases r with
  | none => exact wpAny_pure h₁
  | some v =>
    refine wpAny_bind (wpAny_mono h₁ (fun _ s₀ h₀' => ?_) fun _ _ h' => h')
    refine wpAny_bind (wpAny_mono h₀' (fun _ s₂ h₂ => ?_) fun _ _ h' => h')
    refine wpAny_bind (wpAny_pure ?_)
    show wpAny _ _ (_ >>= _) _ _ _
    refine wpAny_bind (wpAny_mono h₂ (fun x s₃ h₃ => wpAny_bind (wpAny_standAt (wpAny_bind (wpAny_of_eq (hs x) (wpAny_bind (wpAny_mono (wpAny_holding h₃) (fun it1 s₄ h₄ => wpAny_bind (wpAny_mono (wpAny_runOwn (Q := fun _ s₅ => ∃ m, m < n ∧ I m s₅) (codeAny_mono h₄ (fun r s₅ h₅ => ?_))) (fun _ s₅ h₅ => wpAny_pure ⟨rfl, h₅⟩) fun _ _ e => e)) fun _ _ e => e)))))) fun _ _ e => e)
    cases r with
    | ok f => exact h₅
    | error e => exact h₅.elim
end
end Mine
end
section -- Pow2
set_option maxRecDepth 100000
open PySem PySem.W PySem.Calls PyProof.Rows PyProof.V PySem.Spec PyProof.Rows.LCg
namespace Mine
theorem small_range : ∀ n : Nat, n < 101 → Builtin.Range.small 0 n 1 = true ∧ Builtin.Range.rangeSize 0 n 1 = (n : Int) := by decide +kernel
theorem ints_append {a b : List Value} {xs ys : List Int} (h : IntsAre a xs) (h' : IntsAre b ys) : IntsAre (a ++ b) (xs ++ ys) := by
  induction h with
  | nil => exact h'
  | cons n t _ ih => exact .cons n t ih
theorem range_snoc (K : Nat) (f : Nat → Int) : (List.range (K + 1)).map f = (List.range K).map f ++ [f K] := by rw [List.range_succ, List.map_append]; rfl
/-- the heap during the block -/
structure PowSt (H : Heap) (I l D C : Addr) (vals : Array Value) (i : Nat) (ys : List Value) (m : Str → Option Value) (h : Heap) : Prop where
  it : h.IsListIter I l i
  acc : h.get? D = some (lst ys)
  ns : h.Ns C m
  keep : ∀ b o, H.get? b = some o → h.get? b = some o
section
variable {prog : Program} {w : World} {A : Around} {E : Value → Shared → Prop} {s : Shared}
theorem PowSt.off {H : Heap} {I l D C : Addr} {vals : Array Value} {i : Nat} {ys : List Value} {m : Str → Option Value} {h h' : Heap} (S : PowSt H I l D C vals i ys m h) (wr : List Addr) (hw : ∀ b ∈ wr, H.get? b = none ∧ b ≠ I ∧ b ≠ D ∧ b ≠ C) (hk : ∀ b o, b ∉ wr → h.get? b = some o → h'.get? b = some o) : PowSt H I l D C vals i ys m h' where
  it := by
    obtain ⟨o, e, r⟩ := S.it
    exact ⟨o, hk _ _ (fun q => (hw _ q).2.1 rfl) e, r⟩
  acc := hk _ _ (fun q => (hw _ q).2.2.1 rfl) S.acc
  ns := S.ns.at' fun o e => hk _ _ (fun q => (hw _ q).2.2.2 rfl) e
  keep := fun b o e => hk b o (fun q => by rw [(hw b q).1] at e; cases e) (S.keep b o e)
theorem PowSt.stored {H : Heap} {I l D C : Addr} {vals : Array Value} {i : Nat} {ys : List Value} {m m' : Str → Option Value} {h h' : Heap} (S : PowSt H I l D C vals i ys m h) (hC : H.get? C = none) (hIC : I ≠ C) (hDC : D ≠ C) (hs : Heap.SameBut C h h') (hn : h'.Ns C m') : PowSt H I l D C vals i ys m' h' where
  it := by
    obtain ⟨o, e, r⟩ := S.it
    exact ⟨o, hs.extBut _ _ hIC e, r⟩
  acc := hs.extBut _ _ hDC S.acc
  ns := hn
  keep := fun b o e => hs.extBut b o (fun q => by rw [q, hC] at e; cases e) (S.keep b o e)
theorem PowSt.pushed {H : Heap} {I l D C : Addr} {vals : Array Value} {i : Nat} {ys ys' : List Value} {m : Str → Option Value} {h h' : Heap} (S : PowSt H I l D C vals i ys m h) (hD : H.get? D = none) (hID : I ≠ D) (hDC : D ≠ C) (hs : Heap.SameBut D h h') (hn : h'.get? D = some (lst ys')) : PowSt H I l D C vals i ys' m h' where
  it := by
    obtain ⟨o, e, r⟩ := S.it
    exact ⟨o, hs.extBut _ _ hID e, r⟩
  acc := hn
  ns := S.ns.sameBut hs (Ne.symm hDC)
  keep := fun b o e => hs.extBut b o (fun q => by rw [q, hD] at e; cases e) (S.keep b o e)

/-- the inner loop -/
theorem pow_inner {elt i0 i1 : PySem.Expr} {one times : Str} {pa pb pos : Pos} {scope : Scope} {env : Env} {cl : List (Str × Addr)} {H h₁ : Heap} {I l D C J : Addr} {vals : Array Value} {i K tk₁ : Nat} {ys0 : List Value} {m₁ : Str → Option Value} {x p : Int} {tx : Tok}
    (hh : A.handled = none) (hab : ¬ one = times) (hxt : scope.names.lookup times = some .local) (hkind : scope.kind = .function)
    (hD : H.get? D = none) (hC : H.get? C = none) (hJ : H.get? J = none) (hID : I ≠ D) (hIC : I ≠ C) (hDC : D ≠ C) (hJI : J ≠ I) (hJD : J ≠ D) (hJC : J ≠ C) (hsz : ys0.length + K ≤ sizeLine)
    (helt : ∀ h tk m (b : Nat) tb (Q' : Value → Shared → Prop) (E' : Value → Shared → Prop), b < K → h.Ns C m → m one = some (.int x tx) → m times = some (.int b tb) → (∀ b o, H.get? b = some o → h.get? b = some o) → (∀ t tk', Q' (.int (x * p ^ b) t) { s with heap := h, toks := tk' }) →
      wpAny (model prog w) A (eval elt (compEnvC scope cl C env)) Q' E' { s with heap := h, toks := tk })
    (S : PowSt H I l D C vals i ys0 m₁ h₁) (hone : m₁ one = some (.int x tx)) (hit : IsRangeIter h₁ J 0 (K : Int) 1) :
    codeAny (model prog w) A (.compStart (E2 elt (.Name one pa) i0 (.Name times pb) i1 scope pos) 1 (.ref J) (.ref D) (compEnvC scope cl C env))
      (fun r s₅ => match r with | .ok _ => ∃ h tk ys m, s₅ = { s with heap := h, toks := tk } ∧ PowSt H I l D C vals i (ys0 ++ ys) m h ∧ IntsAre ys ((List.range K).map fun j => x * p ^ j) | .error _ => False) { s with heap := h₁, toks := tk₁ } := by
  have W := LCg.range_walks (prog := prog) (w := w) (A := A) (I := J) hh 0 K
  have st0 : IsRangeIter h₁ J (0 + ((0 : Nat) : Int) * 1) ((K : Int) - ((0 : Nat) : Int)) 1 := by simpa using hit
  refine (fun loop => c2_start1 loop (W.self 0 { s with heap := h₁, toks := tk₁ } _ _ st0 loop)) ?_
  · refine c2_loop1 (fun n s' => ∃ h tk j ys m, s' = { s with heap := h, toks := tk } ∧ j ≤ K ∧ n = K - j ∧ PowSt H I l D C vals i (ys0 ++ ys) m h ∧ m one = some (.int x tx) ∧ IntsAre ys ((List.range j).map fun j => x * p ^ j) ∧ IsRangeIter h J (0 + (j : Int) * 1) ((K : Int) - (j : Int)) 1) ?_ K
      ⟨h₁, tk₁, 0, [], m₁, rfl, Nat.zero_le _, rfl, by simpa using S, hone, .nil, st0⟩
    rintro n s' ⟨h, tk, j, ys, m, rfl, hj, rfl, S', ho, hy, st⟩
    have hw : ∀ b ∈ [J], H.get? b = none ∧ b ≠ I ∧ b ≠ D ∧ b ≠ C := fun b hb => by rw [List.mem_singleton.mp hb]; exact ⟨hJ, hJI, hJD, hJC⟩
    by_cases hlt : j < K
    · refine W.item j { s with heap := h, toks := tk } _ _ hlt st fun v h₂ tk₂ hv st₂ hk₂ => ?_
      obtain ⟨tv, rfl⟩ := hv
      have S₂ := S'.off [J] hw hk₂
      dsimp only
      unfold letOwnedTupleGo
      refine wpAny_pure ?_
      refine wpAny_assign_Name (wpAny_storeName_local (env := compEnvC scope cl C env) (lookup_relabel_local hxt) S₂.ns (fun h₃ hn₃ hs₃ => ?_) (by simp [compEnvC, relabel, hkind]))
      have S₃ := S₂.stored hC hIC hDC hs₃ hn₃
      refine helt h₃ _ _ j tv _ _ hlt hn₃ (by simp [hab, ho]) (by simp) S₃.keep fun t tk₄ => ?_
      have hyl : ys.length = j := by have := hy.length; simpa using this
      refine append_at (hsz := by show (ys0 ++ ys).toArray.size ≤ sizeLine; rw [List.size_toArray, List.length_append, hyl]; omega) S₃.acc fun h₅ hs₅ hD₅ => ?_
      have hD₅' : h₅.get? D = some (lst (ys0 ++ (ys ++ [.int (x * p ^ j) t]))) := by rw [← List.append_assoc]; exact hD₅.trans (congrArg some (lst_snoc _ _))
      refine ⟨K - (j + 1), by omega, h₅, tk₄, j + 1, ys ++ [.int (x * p ^ j) t], _, rfl, hlt, rfl, S₃.pushed hD hID hDC hs₅ hD₅', by simp [hab, ho], ?_, ?_⟩
      · rw [range_snoc]
        exact ints_append hy (.cons _ _ .nil)
      · exact hs₅.extBut _ _ hJD (hs₃.extBut _ _ hJC st₂)
    · have hin : j = K := Nat.le_antisymm hj (Nat.not_lt.mp hlt)
      subst hin
      refine W.done { s with heap := h, toks := tk } _ _ st fun h₂ tk₂ hk₂ => ?_
      exact ⟨h₂, tk₂, ys, m, rfl, S'.off [J] hw hk₂, hy⟩
end
end Mine
end
section -- Pow3
set_option maxRecDepth 100000
open PySem PySem.W PySem.Calls PyProof.Rows PyProof.V PySem.Spec PyProof.Rows.LCg
namespace Mine
theorem pows_len (p k : Int) (ds : List Int) : (pows p k ds).length = ds.length * (k + 1).toNat := by
  unfold pows
  induction ds with
  | nil => simp
  | cons x r ih => rw [List.flatMap_cons, List.length_append, ih, List.length_map, List.length_range, List.length_cons, Nat.succ_mul, Nat.add_comm]
theorem pows_take (p k : Int) (ds : List Int) (i : Nat) (x : Int) (h : ds[i]? = some x) : pows p k (ds.take (i + 1)) = pows p k (ds.take i) ++ (List.range (k + 1).toNat).map fun j => x * p ^ j := by
  unfold pows
  rw [List.take_add_one, h, List.flatMap_append]
  simp
section
variable {prog : Program} {w : World} {A : Around} {E : Value → Shared → Prop} {s : Shared}
theorem range_iter {n : Nat} {t : Tok} {Q : Value → Shared → Prop} (hn : n < 101) (h : ∀ Hp tk, IsRangeIter Hp (s.heap.objs.size + 1) 0 n 1 → (∀ b o, s.heap.get? b = some o → Hp.get? b = some o) → Q (.ref (s.heap.objs.size + 1)) { s with heap := Hp, toks := tk }) :
    wpAny (model prog w) A (call (.type "range") [.int n t]) (fun xv s₁ => wpAny (model prog w) A (pyIter xv) Q E s₁) E s := by
  refine call_range_1 ?_
  refine wpAny_pyIter_range (a := 0) (b := n) (c := 1) (t := s.toks) (u := t) (v := s.toks + 1) (Heap.get?_push_size _ rfl) (small_range _ hn).1 ?_
  have z1 : (s.heap.push { cls := .type "range", data := .fields #[Value.int 0 s.toks, Value.int n t, Value.int 1 (s.toks + 1)] }).objs.size = s.heap.objs.size + 1 := Heap.size_push ..
  rw [(small_range _ hn).2]
  have hI := Heap.get?_push_size (s.heap.push { cls := .type "range", data := .fields #[Value.int 0 s.toks, Value.int n t, Value.int 1 (s.toks + 1)] }) (o := { cls := .type "range_iterator", data := .fields #[rawInt 0, rawInt n, rawInt 1] }) rfl
  show Q (.ref (s.heap.push _).objs.size) _
  rw [z1] at hI ⊢
  exact h _ _ hI fun b o e => Heap.get?_push_of_some _ (Heap.get?_push_of_some _ e)
abbrev powElt (one times prime : Str) (p1 p2 p3 p4 p5 : Pos) : PySem.Expr := .BinOp (.Name one p1) .Mult (.BinOp (.Name prime p2) .Pow (.Name times p3) p4) p5
abbrev powIter (range many : Str) (pr p8 p9 p10 p11 : Pos) : PySem.Expr := .Call (.Name range pr) [.BinOp (.Name many p8) .Add (.Constant (.int 1) 0 p9) p10] [] p11

/-- found = [one * prime ** times for one in found for times in range(many + 1)] -/
theorem pow_assign {K : Frag} {mg mb : Str → Option Value} {p : Program} {loose : List Str} {mean : ExcName → Option Value} {h₀ : Heap} {m : Str → Option Value} {news : List (Addr × Obj)} {env : Env} {i0 : PySem.Expr} {one times prime many y : Str} {p1 p2 p3 p4 p5 p8 p9 p10 p11 pr pa pb py pos spos : Pos} {scope : Scope} {cl : List (Str × Addr)}
    {l cp cm : Addr} {ocp ocm : Obj} {pv kv : Int} {tp tm : Tok} {vals : List Value} {ds : List Int} {Q : Flow → Shared → Prop} (hh : A.handled = none)
    (F : Fr h₀ env.locals s.heap m) (N : News h₀ env.locals s.heap news) (X : K.In h₀) (T : Top p loose mean mg mb h₀) (hl : s.heap.IsList l vals.toArray) (hi : IntsAre vals ds)
    (hmp : (cp, ocp) ∈ news) (hdp : ocp.data = .cell (some (.int pv tp))) (hmm : (cm, ocm) ∈ news) (hdm : ocm.data = .cell (some (.int kv tm)))
    (hp0 : 2 ≤ pv) (hp1 : pv < 100000) (hk0 : 0 ≤ kv) (hk1 : kv < 100) (hds : ∀ x ∈ ds, 0 < x ∧ x < 100000) (hlen : ds.length < 64)
    (e : nsIn K mainGlobals "range" = some none) (hv : bootBuiltins "range" = some (.type "range")) (hg : env.globals = mainGlobals) (hb : env.builtins = builtinsNs)
    (hsw : swapsWith (.ListComp (powElt one times prime p1 p2 p3 p4 p5) [⟨.Name one pa, i0, [], 0⟩, ⟨.Name times pb, powIter "range" many pr p8 p9 p10 p11, [], 0⟩] scope pos) (some (.Name y py)) spos.line env = pure true)
    (hclos : closureFor scope env = pure cl) (hcell : ∀ y ∈ scope.names, y.2 ≠ .cell) (hkind : scope.kind = .function) (hnames : ∀ y ∈ scope.names, y.2 = .local → scope.names.lookup y.1 = some .local)
    (hxo : scope.names.lookup one = some .local) (hxt : scope.names.lookup times = some .local) (hab : ¬ one = times)
    (hkp' : ∀ C, (compEnvC scope cl C env).kindOf prime = some .cell) (hkm : ∀ C, (compEnvC scope cl C env).kindOf many = some .cell) (hcp : cl.lookup prime = some cp) (hcm : cl.lookup many = some cm)
    (hrk : ∀ C, (compEnvC scope cl C env).kindOf "range" = some .globalImplicit)
    (hd1 : (one == ("__debug__" : Str)) = false) (hd2 : (times == ("__debug__" : Str)) = false) (hd3 : (prime == ("__debug__" : Str)) = false) (hd4 : (many == ("__debug__" : Str)) = false)
    (hy : env.kindOf y = some .local) (hp : (env.scope.kind == .class || (env.scope.kind == .module && env.locals != env.globals)) = false)
    (h0 : ∀ Q' : Value → Shared → Prop, Q' (.ref l) s → wpAny (model prog w) A (eval i0 env) Q' E s)
    (done : ∀ D ys h' tk, Fr h₀ env.locals h' (fun z => if z = y then some (.ref D) else m z) → News h₀ env.locals h' ((D, lst ys) :: news) → (∀ p ∈ news, p.1 < D) → IntsAre ys (pows pv kv ds) → Q .next { s with heap := h', toks := tk })
    (hs : ∀ x, foldedSetIterable i0 env x = pure x := by intro _; rfl) :
    wpAny (model prog w) A (exec (.Assign [.Name y py] (.ListComp (powElt one times prime p1 p2 p3 p4 p5) [⟨.Name one pa, i0, [], 0⟩, ⟨.Name times pb, powIter "range" many pr p8 p9 p10 p11, [], 0⟩] scope pos) spos) env) Q E s := by
  rw [exec_Assign_Name_used _ _ _ _ hsw]
  refine wpAny_bind (wpAny_standAt (wpAny_bind ?_))
  show wpAny _ A (do let _ ← comprehension (.ListComp (powElt one times prime p1 p2 p3 p4 p5) [⟨.Name one pa, i0, [], 0⟩, ⟨.Name times pb, powIter "range" many pr p8 p9 p10 p11, [], 0⟩] scope pos) scope env _ (newList []) false (eval i0 env) (some (assign (.Name y py) env))) _ _ s
  refine wpAny_bind (wpAny_mono (wpAny_comprehension_free (use := some (assign (.Name y py) env)) (Q := fun _ s' => Q .next s') rfl hs hclos hkind hnames
    (h0 _ (wpAny_pyIter_list hl ?_))) (fun _ s' hq => wpAny_pure (wpAny_pure hq)) fun _ _ e => e)
  refine wpAny_newObj_type (wpAny_newFunctionEnv hcell (by intro y hy; simp at hy) (fun h₁ hns₁ hsb₁ => ?_) hkind)
  dsimp only at hns₁ hsb₁ ⊢
  generalize hH1 : s.heap.push { cls := .type "list_iterator", data := .fields #[.ref l, .int 0 0] } = H1 at hns₁ hsb₁ ⊢
  have z1 : H1.objs.size = s.heap.objs.size + 1 := by rw [← hH1, Heap.size_push]
  generalize hH2 : H1.push { cls := .type "list", dict := none, data := .seq ([] : List Value).toArray } = H2 at hns₁ hsb₁ ⊢
  have z2 : H2.objs.size = s.heap.objs.size + 2 := by rw [← hH2, Heap.size_push, z1]
  rw [z2] at hns₁ hsb₁
  have old : ∀ b o, s.heap.get? b = some o → h₁.get? b = some o := fun b o e => hsb₁.extBut b o (fun q => absurd (Heap.lt_size e) (by rw [q]; exact Nat.not_lt.mpr (Nat.le_add_right _ 2))) (Heap.get?_push_of_some _ (hH2 ▸ Heap.get?_push_of_some _ (hH1 ▸ Heap.get?_push_of_some _ e)))
  have new : ∀ k, s.heap.get? (s.heap.objs.size + k) = none := fun k => Heap.get?_none_of_le (Nat.le_add_right _ k)
  have n01 : s.heap.objs.size ≠ s.heap.objs.size + 1 := Nat.ne_of_lt (Nat.lt_succ_self _)
  have n02 : s.heap.objs.size ≠ s.heap.objs.size + 2 := Nat.ne_of_lt (Nat.lt_succ_of_lt (Nat.lt_succ_self _))
  have n12 : s.heap.objs.size + 1 ≠ s.heap.objs.size + 2 := Nat.ne_of_lt (Nat.lt_succ_self _)
  have S0 : PowSt s.heap s.heap.objs.size l (s.heap.objs.size + 1) (s.heap.objs.size + 2) vals.toArray 0 [] (fun x => List.lookup x ([] : List (Str × Value)).reverse) h₁ := by
    refine ⟨?_, ?_, hns₁, old⟩
    · have q : H1.get? s.heap.objs.size = some { cls := .type "list_iterator", data := .fields #[.ref l, .int 0 0] } := by rw [← hH1]; exact Heap.get?_push_size _ rfl
      exact ⟨_, hsb₁.extBut _ _ n02 (Heap.get?_push_of_some _ (hH2 ▸ Heap.get?_push_of_some _ q)), rfl, rfl⟩
    · have q : H2.get? H1.objs.size = some (lst []) := by rw [← hH2]; exact Heap.get?_push_size _ rfl
      rw [z1] at q
      exact hsb₁.extBut _ _ n12 (Heap.get?_push_of_some _ q)
  rw [z1]
  have hlv : vals.length = ds.length := hi.length
  have hK : (kv + 1).toNat < 101 := by omega
  have hKe : (((kv + 1).toNat : Nat) : Int) = kv + 1 := by omega
  have hbig : 64 * 100 ≤ sizeLine := by rw [sizeLine_eq]; decide
  have loop : ∀ s₃ : Shared, s₃ = { s with heap := h₁, toks := s.toks + ([] : List (Str × Value)).length } →
      codeAny (model prog w) A (.compLoop (E2 (powElt one times prime p1 p2 p3 p4 p5) (.Name one pa) i0 (.Name times pb) (powIter "range" many pr p8 p9 p10 p11) scope pos) 0 (.ref s.heap.objs.size) (.ref (s.heap.objs.size + 1)) (compEnvC scope cl (s.heap.objs.size + 2) env))
        (compPost (model prog w) A E (some (assign (.Name y py) env)) (fun _ s' => Q .next s') (.ref (s.heap.objs.size + 1)) (s.heap.objs.size + 2)) s₃ := by
    rintro s₃ rfl
    refine c2_loop0 (fun _ => rfl) (fun n s' => ∃ h tk i ys m, s' = { s with heap := h, toks := tk } ∧ i ≤ ds.length ∧ n = ds.length - i ∧ PowSt s.heap s.heap.objs.size l (s.heap.objs.size + 1) (s.heap.objs.size + 2) vals.toArray i ys m h ∧ IntsAre ys (pows pv kv (ds.take i))) ?_ ds.length
      ⟨h₁, _, 0, [], _, rfl, Nat.zero_le _, rfl, S0, .nil⟩
    rintro n s' E' ⟨h, tk, i, ys, m', rfl, hin, rfl, S, hys⟩
    have hll : h.IsList l vals.toArray := hl.at fun o e => S.keep _ o e
    by_cases hlt : i < ds.length
    · obtain ⟨tx, htx⟩ := hi.get i ds[i] (by simp [hlt])
      refine wpAny_pyNext_list_item S.it hll (x := .int ds[i] tx) (by simpa using htx) fun h₂ hit₂ hs₂ => ?_
      have nI : ∀ b o, s.heap.get? b = some o → b ≠ s.heap.objs.size := fun b o e q => absurd (Heap.lt_size e) (by rw [q]; exact Nat.lt_irrefl _)
      have S₂ : PowSt s.heap s.heap.objs.size l (s.heap.objs.size + 1) (s.heap.objs.size + 2) vals.toArray (i + 1) ys m' h₂ :=
        ⟨hit₂, hs₂.extBut _ _ (Ne.symm n01) S.acc, S.ns.sameBut hs₂ (Ne.symm n02), fun b o e => hs₂.extBut b o (nI b o e) (S.keep b o e)⟩
      dsimp only
      unfold letOwnedTupleGo
      refine wpAny_pure ?_
      refine wpAny_assign_Name (wpAny_storeName_local (env := compEnvC scope cl (s.heap.objs.size + 2) env) (lookup_relabel_local hxo) S₂.ns (fun h₃ hn₃ hs₃ => ?_) (by simp [compEnvC, relabel, hkind]))
      have S₃ := S₂.stored (new 2) n02 n12 hs₃ hn₃
      have F₃ : Fr h₀ env.locals h₃ m := F.keeps S₃.keep
      have N₃ : News h₀ env.locals h₃ news := N.grown S₃.keep
      refine Call_ (LCgL.ld_built F₃ X T e hv (by decide) ?_ hg hb (by exact hkind) (hrk _)) (by rfl)
      refine PyProof.Rows.callWith_type1 (spliced_more ?_ (by rfl)) (by rfl)
      refine wpAny_BinOp (wpAny_Name (wpAny_loadName_cell (c := cm) (by exact hkind) (hkm _) hcm ⟨ocm, N₃.get hmm, hdm⟩ ?_) hd4)
      refine wpAny_Constant_int ?_
      refine add_int ?_
      refine spliced_none ?_
      rw [← hKe]
      refine range_iter hK fun Hp tk₅ hJ hkp => ?_
      dsimp only at hJ hkp ⊢
      have hz3 : s.heap.objs.size + 2 < h₃.objs.size := S₃.ns.lt
      have hJ0 : s.heap.get? (h₃.objs.size + 1) = none := Heap.get?_none_of_le (Nat.le_trans (Nat.le_add_right _ 2) (Nat.le_trans (Nat.le_of_lt hz3) (Nat.le_succ _)))
      have j2 : h₃.objs.size + 1 ≠ s.heap.objs.size + 2 := Nat.ne_of_gt (Nat.lt_succ_of_lt hz3)
      have j1 : h₃.objs.size + 1 ≠ s.heap.objs.size + 1 := Nat.ne_of_gt (Nat.lt_succ_of_lt (Nat.lt_trans (Nat.lt_succ_self _) hz3))
      have j0 : h₃.objs.size + 1 ≠ s.heap.objs.size := Nat.ne_of_gt (Nat.lt_succ_of_lt (Nat.lt_trans (Nat.lt_add_of_pos_right (by decide)) hz3))
      have S₅ := S₃.off [] (fun b hb => nomatch hb) (fun b o _ e => hkp b o e)
      have hyl : ys.length = i * (kv + 1).toNat := by rw [hys.length, pows_len, List.length_take, Nat.min_eq_left (Nat.le_of_lt hlt)]
      have hdx := hds ds[i] (List.getElem_mem hlt)
      refine codeAny_mono (pow_inner (x := ds[i]) (p := pv) (K := (kv + 1).toNat) (s := s) (tx := tx) (by exact hh) hab hxt hkind (new 1) (new 2) hJ0 n01 n02 n12 j0 j1 j2 ?_ ?_ S₅ (by simp) hJ) ?_
      · have : i * (kv + 1).toNat + (kv + 1).toNat ≤ 64 * 100 := by
          rw [← Nat.succ_mul]
          exact Nat.mul_le_mul (by omega) (by omega)
        omega
      · intro h tk m b tb Q' E' hbK hns ho ht hk hq
        have N₄ : News h₀ env.locals h news := N.grown hk
        refine wpAny_BinOp (ldVarK (m := m) hns ho ?_ (by exact hkind) (lookup_relabel_local hxo) hd1)
        refine wpAny_BinOp (wpAny_Name (wpAny_loadName_cell (c := cp) (by exact hkind) (hkp' _) hcp ⟨ocp, N₄.get hmp, hdp⟩ ?_) hd3)
        refine ldVarK (m := m) hns ht ?_ (by exact hkind) (lookup_relabel_local hxt) hd2
        refine pow_int_small (Int.natCast_nonneg b) (by omega) (by omega) ?_
        refine mul_int ?_ (IntMulOk.of_left (intBits_le_64 (by omega) (by omega)))
        rw [Int.toNat_natCast]
        exact hq _ _
      · intro r s₅ hr
        cases r with
        | error e => exact hr
        | ok f =>
          obtain ⟨h₆, tk₆, ys₆, m₆, rfl, S₆, hy₆⟩ := hr
          refine ⟨ds.length - (i + 1), by omega, h₆, tk₆, i + 1, ys ++ ys₆, m₆, rfl, hlt, rfl, S₆, ?_⟩
          rw [pows_take pv kv ds i ds[i] (List.getElem?_eq_getElem hlt)]
          exact ints_append hys hy₆
    · refine wpAny_pyNext_list_end hh S.it hll (by simp [hlv]; omega) fun h' he' => ?_
      have hie : i = ds.length := Nat.le_antisymm hin (Nat.not_lt.mp hlt)
      subst hie
      rw [List.take_length] at hys
      have nI : ∀ b o, s.heap.get? b = some o → b ≠ s.heap.objs.size := fun b o e q => absurd (Heap.lt_size e) (by rw [q]; exact Nat.lt_irrefl _)
      have hk' : ∀ b o, s.heap.get? b = some o → h'.get? b = some o := fun b o e => he' b o (nI b o e) (S.keep b o e)
      have hD' : h'.get? (s.heap.objs.size + 1) = some (lst ys) := he' _ _ (Ne.symm n01) S.acc
      have hC' : h'.Ns (s.heap.objs.size + 2) m' := S.ns.at' fun o e => he' _ o (Ne.symm n02) e
      dsimp only
      show wpAny _ A (assign (.Name y py) env (.ref (s.heap.objs.size + 1))) _ _ _
      have F' : Fr h₀ env.locals h' m := F.keeps hk'
      have hLs : env.locals < s.heap.objs.size := F.ns.lt
      have hLC : env.locals ≠ s.heap.objs.size + 2 := Nat.ne_of_lt (Nat.lt_of_lt_of_le hLs (Nat.le_add_right _ 2))
      have hLD : env.locals ≠ s.heap.objs.size + 1 := Nat.ne_of_lt (Nat.lt_of_lt_of_le hLs (Nat.le_add_right _ 1))
      refine wpAny_assign_Name (wpAny_storeName_local hy F'.ns (fun h₂ hn₂ hs₂ => ?_) hp)
      refine ⟨m', hC'.sameBut hs₂ (Ne.symm hLC), fun h'' hs'' => ?_⟩
      have k'' : ∀ b o, b ≠ env.locals → b < s.heap.objs.size → s.heap.get? b = some o → h''.get? b = some o := fun b o b1 b2 e => hs''.extBut b o (Nat.ne_of_lt (Nat.lt_of_lt_of_le b2 (Nat.le_add_right _ 2))) (hs₂.extBut b o b1 (hk' b o e))
      have nl : ∀ b o, h₀.get? b = some o → b ≠ env.locals := fun b o q z => absurd (Heap.lt_size q) (z ▸ Nat.not_lt.mpr F.above)
      refine done (s.heap.objs.size + 1) ys h'' _ ⟨hn₂.sameBut hs'' hLC, fun b o e => k'' b o (nl b o e) (Heap.lt_size (F.keep b o e)) (F.keep b o e), F.above⟩ ?_ ?_ hys
      · intro q hq
        rcases List.mem_cons.mp hq with rfl | hq
        · refine ⟨hs''.extBut _ _ n12 (hs₂.extBut _ _ (Ne.symm hLD) hD'), Ne.symm hLD, ?_⟩
          cases q : h₀.get? (s.heap.objs.size + 1) with
          | none => rfl
          | some o => exact absurd (Heap.lt_size (F.keep _ _ q)) (Nat.not_lt.mpr (Nat.le_add_right _ 1))
        · have z := N q hq
          exact ⟨k'' _ _ z.2.1 (Heap.lt_size z.1) z.1, z.2⟩
      · intro q hq
        exact Nat.lt_of_lt_of_le (Heap.lt_size (N q hq).1) (Nat.le_succ _)
  have e0 : (newEnv scope H2.objs.size env.globals cl env.qual none Value.none (some env) builtinsNs) = newEnv scope (s.heap.objs.size + 2) env.globals cl env.qual none Value.none (some env) builtinsNs := by rw [z2]
  rw [e0]
  refine codeAny_compStart_list (loop _ rfl) (wpAny_pyIter_listiter S0.it (loop _ rfl))
end
end Mine
end
section -- Div0
set_option maxRecDepth 100000
open PySem PySem.W PySem.Calls PyProof.Rows PyProof.V PySem.Spec PyProof.Rows.LCg
namespace Mine
def okFin (ds : List Int) : Prop := (∀ x ∈ ds, 0 < x ∧ x < 100000) ∧ ds.length < 64 ∧ 0 < ds.length
theorem okP_open {ds : List Int} {q : Int × Int} (h : okP ds q = true) : 2 ≤ q.1 ∧ q.1 < 100000 ∧ 0 ≤ q.2 ∧ q.2 < 100 ∧ (∀ x ∈ ds, 0 < x ∧ x < 100000) ∧ ds.length < 64 := by
  unfold okP at h
  simp only [Bool.and_eq_true, decide_eq_true_eq, List.all_eq_true] at h
  obtain ⟨⟨⟨⟨⟨a, b⟩, c⟩, d⟩, e⟩, f⟩ := h
  exact ⟨a, b, c, d, e, f⟩
theorem okL_at : ∀ (ps : List (Int × Int)) (ds : List Int), okL ds ps = true → (∀ i q, ps[i]? = some q → okP ((ps.take i).foldl (fun ds q => pows q.1 q.2 ds) ds) q = true) ∧ okFin (ps.foldl (fun ds q => pows q.1 q.2 ds) ds)
  | [], ds, h => by
    refine ⟨fun i q e => by simp at e, ?_⟩
    unfold okL at h
    simp only [Bool.and_eq_true, decide_eq_true_eq, List.all_eq_true] at h
    exact ⟨h.1.1, h.1.2, h.2⟩
  | q :: r, ds, h => by
    unfold okL at h
    rw [Bool.and_eq_true] at h
    obtain ⟨a, b⟩ := okL_at r _ h.2
    refine ⟨fun i q' e => ?_, b⟩
    cases i with
    | zero =>
      simp only [List.getElem?_cons_zero, Option.some.injEq] at e
      subst e
      exact h.1
    | succ i => exact a i q' (by simpa using e)
theorem PrsL.get {tups : List (Addr × Obj)} {vs : List Value} {ps : List (Int × Int)} (h : PrsL tups vs ps) : ∀ (i : Nat) v, vs[i]? = some v → ∃ T p k t t', v = .ref T ∧ ps[i]? = some (p, k) ∧ (T, tupOf2 [.int p t, .int k t']) ∈ tups := by
  induction h with
  | nil => intro i v e; simp at e
  | cons hm _ ih =>
    intro i v e
    cases i with
    | zero =>
      simp only [List.getElem?_cons_zero, Option.some.injEq] at e
      subst e
      exact ⟨_, _, _, _, _, rfl, rfl, hm⟩
    | succ i => exact ih i v (by simpa using e)

section
variable {prog : Program} {w : World} {A : Around} {E : Value → Shared → Prop} {s : Shared}
/-- a pair is unpacked into two cells -/
theorem assign2C {env : Env} {a b : Str} {pa pb tp : Pos} {kk : Nat} {T ca cb : Addr} {x y : Value} {va vb : Option Value} {Q : Unit → Shared → Prop} (hh : A.handled = none) (ht : s.heap.IsTuple T #[x, y])
    (hkd : env.scope.kind = .function) (ha : env.kindOf a = some .cell) (hb : env.kindOf b = some .cell) (hca : env.cells.lookup a = some ca) (hcb : env.cells.lookup b = some cb) (hac : s.heap.IsCell ca va) (hbc : s.heap.IsCell cb vb) (hab : ca ≠ cb)
    (h : ∀ (h' : Heap) (tk : Nat), h'.IsCell ca (some x) → h'.IsCell cb (some y) → (∀ c o, c ≠ ca → c ≠ cb → s.heap.get? c = some o → h'.get? c = some o) → Q () { s with heap := h', toks := tk }) :
    wpAny (model prog w) A (assign (.Tuple [.Name a pa, .Name b pb] kk tp) env (.ref T)) Q E s := by
  refine wpAny_assign_Tuple hh ht rfl rfl fun h₁ he₁ => ?_
  have up₁ : ∀ c o, s.heap.get? c = some o → h₁.get? c = some o := fun c o e => he₁ c o (Nat.ne_of_lt (Heap.lt_size e)) e
  show wpAny _ _ (assignInOrder [assign (.Name a pa) env, assign (.Name b pb) env] [x, y]) _ _ _
  refine assignInOrder_cons ?_
  refine wpAny_assign_Name (wpAny_storeName_cell hkd ha hca (hac.keeps up₁) fun h₂ hv₂ hs₂ => ?_)
  have hbc₂ : h₂.IsCell cb vb := by
    obtain ⟨o, e, r⟩ := hbc
    exact ⟨o, hs₂.extBut _ _ (Ne.symm hab) (up₁ _ _ e), r⟩
  refine assignInOrder_cons ?_
  refine wpAny_assign_Name (wpAny_storeName_cell hkd hb hcb hbc₂ fun h₃ hv₃ hs₃ => ?_)
  refine assignInOrder_nil ?_
  refine h h₃ _ ?_ hv₃ fun c o h1 h2 e => hs₃.extBut c o h2 (hs₂.extBut c o h1 (up₁ c o e))
  obtain ⟨o, e, r⟩ := hv₂
  exact ⟨o, hs₃.extBut _ _ hab e, r⟩

structure DivJ (found : Str) (ps : List (Int × Int)) (cp cm : Addr) (tups : List (Addr × Obj)) (i : Nat) (m₁ : Str → Option Value) (news₁ : List (Addr × Obj)) : Prop where
  ex : ∃ D od ys k ocp ocm vp vm, m₁ found = some (.ref D) ∧ news₁ = (D, od) :: (cm, ocm) :: (cp, ocp) :: tups ∧ ocm.data = .cell vm ∧ ocp.data = .cell vp ∧ od = listOf (List.toArray ys) k ∧ IntsAre ys (divF (ps.take i)) ∧ D ≠ cm ∧ D ≠ cp

theorem div_for {h₀ : Heap} {m : Str → Option Value} {env : Env} {iter : PySem.Expr} {st : Stmt} {prime many found : Str} {pa pb tp pos : Pos} {kk : Nat} {cp cm D0 : Addr} {ocp ocm : Obj} {vp vm : Option Value} {ys0 : List Value} {k0 : Nat} {ps : List (Int × Int)} {Q : Flow → Shared → Prop}
    (hh : A.handled = none) (F₀ : Fr h₀ env.locals s.heap m) (hN0 : News h₀ env.locals s.heap [(D0, listOf ys0.toArray k0), (cm, ocm), (cp, ocp)]) (hkd : env.scope.kind = .function) (hkp : env.kindOf prime = some .cell) (hkm : env.kindOf many = some .cell) (hcp : env.cells.lookup prime = some cp) (hcm : env.cells.lookup many = some cm) (hcpm : cp ≠ cm)
    (hm0 : m found = some (.ref D0)) (hy0 : IntsAre ys0 [1]) (hdm : ocm.data = .cell vm) (hdp : ocp.data = .cell vp) (hok : okL [1] ps = true)
    (hit : wpAny (model prog w) A (eval iter env) (fun v s₁ => ∃ h' tk fl vs cap tups, v = .ref fl ∧ s₁ = { s with heap := h', toks := tk } ∧ Fr h₀ env.locals h' m ∧ News h₀ env.locals h' ((fl, listOf vs.toArray cap) :: (D0, listOf ys0.toArray k0) :: (cm, ocm) :: (cp, ocp) :: tups) ∧ PrsL tups vs ps ∧ vs.length ≤ sizeLine ∧
      fl ≠ D0 ∧ fl ≠ cm ∧ fl ≠ cp ∧ D0 ≠ cm ∧ D0 ≠ cp ∧ (∀ q ∈ tups, q.1 ≠ cm ∧ q.1 ≠ cp ∧ q.1 ≠ fl)) E s)
    (hbody : ∀ (s₁ : Shared) m₁ news₁ D ys ds pv kv tp tk ocp ocm (Q' : Flow → Shared → Prop) (E' : Value → Shared → Prop), Fr h₀ env.locals s₁.heap m₁ → News h₀ env.locals s₁.heap news₁ → m₁ found = some (.ref D) → s₁.heap.IsList D (List.toArray ys) → IntsAre ys ds →
      (cp, ocp) ∈ news₁ → ocp.data = .cell (some (.int pv tp)) → (cm, ocm) ∈ news₁ → ocm.data = .cell (some (.int kv tk)) → okP ds (pv, kv) = true →
      (∀ D' ys' h' tk, Fr h₀ env.locals h' (fun z => if z = found then some (.ref D') else m₁ z) → News h₀ env.locals h' ((D', lst ys') :: news₁) → (∀ p ∈ news₁, p.1 < D') → IntsAre ys' (pows pv kv ds) → Q' .next { s₁ with heap := h', toks := tk }) →
      wpAny (model prog w) A (exec st env) Q' E' s₁)
    (done : ∀ D ys k h' tk m', Fr h₀ env.locals h' m' → m' found = some (.ref D) → News h₀ env.locals h' [(D, listOf (List.toArray ys) k)] → IntsAre ys (divF ps) → Q .next { s with heap := h', toks := tk })
    (hs : ∀ x, foldedSetIterable iter env x = pure x := by intro _; rfl) (hE : PassesOwn (model prog w) A env E := by passes_own) :
    wpAny (model prog w) A (exec (.For (.Tuple [.Name prime pa, .Name many pb] kk tp) iter [st] [] pos) env) Q E s := by
  refine For_turns F₀ (wpAny_mono hit (fun v s₁ h₁ => ?_) fun _ _ e => e) hs hE
  obtain ⟨h', tk, fl, vs, cap, tups, rfl, rfl, F, N, hP, hsz, x1, x2, x3, x4, x5, x6⟩ := h₁
  have hl : h'.IsList fl vs.toArray := ⟨_, (N _ (.head _)).1, rfl, _, rfl⟩
  refine wpAny_pyIter_list hl ?_
  have hI0 := Heap.get?_push_size h' (o := { cls := .type "list_iterator", data := .fields #[.ref fl, .int 0 0] }) rfl
  have hfl : fl < h'.objs.size := Heap.lt_size (N _ (.head _)).1
  have hne : fl ≠ h'.objs.size := Nat.ne_of_lt hfl
  have new : h₀.get? h'.objs.size = none := by
    cases q : h₀.get? h'.objs.size with
    | none => rfl
    | some o => exact absurd (Heap.lt_size (F.keep _ _ q)) (Nat.lt_irrefl _)
  have hW := Walks.list (prog := prog) (w := w) hh h'.objs.size fl hne vs.toArray
  refine ⟨h'.objs.size, [h'.objs.size, fl], [h'.objs.size], vs.toArray.size, _, _, _, m, (D0, listOf ys0.toArray k0) :: (cm, ocm) :: (cp, ocp) :: tups, DivJ found ps cp cm tups, rfl, KTurns.ofWalks hW (fun i v s Q E st q => ?_), ?_, ?_, ?_, ?_, ?_, ?_, ?_, ?_, ?_⟩
  · cases v
    case ref T => exact wpAny_letOwnedTupleGo_listiter ‹_ ∧ _›.1 ‹_›
    all_goals exact wpAny_pure ‹_›
  · intro hm
    rcases List.mem_cons.mp hm with q | hm
    · exact absurd F.ns.lt (q ▸ Nat.lt_irrefl _)
    · exact (N _ (.head _)).2.1 (List.mem_singleton.mp hm).symm
  · intro b hb
    rw [List.mem_singleton.mp hb]
    exact new
  · intro p hp hm
    have := Heap.lt_size (N p (.tail _ hp)).1
    rw [List.mem_singleton.mp hm] at this
    exact Nat.lt_irrefl _ this
  · exact ⟨⟨_, hI0, rfl, rfl⟩, hl.at fun o e => Heap.get?_push_of_some _ e⟩
  · exact F.keeps fun _ _ e => Heap.get?_push_of_some _ e
  · exact (PyProof.Rows.News.tail' N).grown fun _ _ e => Heap.get?_push_of_some _ e
  · exact ⟨D0, _, ys0, k0, ocp, ocm, vp, vm, hm0, rfl, hdm, hdp, rfl, hy0, x4, x5⟩
  · rintro i v m₁ news₁ h₁ tk₁ own hi hv ⟨D, od, ys, k, ocp', ocm', vp', vm', hf, rfl, dm, dp, rfl, hy, n1, n2⟩ hoff hsub hown hall hst₁ F₁ N₁
    obtain ⟨T, p, k', t, t', rfl, hps, hT⟩ := hP.get i v (by simpa using hv)
    have nIcp : h'.objs.size ≠ cp := fun q => hoff _ (.tail _ (.tail _ (.head _))) (List.mem_singleton.mpr q.symm)
    have nIcm : h'.objs.size ≠ cm := fun q => hoff _ (.tail _ (.head _)) (List.mem_singleton.mpr q.symm)
    have nID : h'.objs.size ≠ D := fun q => hoff _ (.head _) (List.mem_singleton.mpr q.symm)
    have mem : ∀ q ∈ (D, listOf ys.toArray k) :: (cm, ocm') :: (cp, ocp') :: tups, q ∈ own ++ ((D, listOf ys.toArray k) :: (cm, ocm') :: (cp, ocp') :: tups) := fun q hq => List.mem_append_right _ hq
    have eT := (N₁ _ (mem _ (.tail _ (.tail _ (.tail _ hT))))).1
    have eM := N₁ _ (mem _ (.tail _ (.head _)))
    have eP := N₁ _ (mem _ (.tail _ (.tail _ (.head _))))
    refine assign2C (va := vp') (vb := vm') hh ⟨_, eT, rfl, _, rfl⟩ hkd hkp hkm hcp hcm ⟨_, eP.1, dp⟩ ⟨_, eM.1, dm⟩ hcpm fun h₂ tk₂ hP₂ hM₂ hk₂ => ?_
    have eP2 : h₀.get? cp = none := eP.2.2
    have eM2 : h₀.get? cm = none := eM.2.2
    obtain ⟨op₂, ep₂, dp₂⟩ := hP₂
    obtain ⟨om₂, em₂, dm₂⟩ := hM₂
    have old : ∀ b o, h₀.get? b = some o → b ≠ cp ∧ b ≠ cm := fun b o e => ⟨fun z => (by rw [z, eP2] at e; cases e), fun z => (by rw [z, eM2] at e; cases e)⟩
    have F₂ : Fr h₀ env.locals h₂ m₁ := ⟨F₁.ns.at' fun o e => hk₂ _ o (Ne.symm eP.2.1) (Ne.symm eM.2.1) e, fun b o e => hk₂ b o (old b o e).1 (old b o e).2 (F₁.keep b o e), F₁.above⟩
    have off : ∀ q ∈ own, q.1 ≠ cp ∧ q.1 ≠ cm := fun q hq => by
      rcases List.mem_cons.mp (hsub q hq) with z | z
      · exact ⟨z ▸ nIcp, z ▸ nIcm⟩
      · exact ⟨(List.mem_singleton.mp z) ▸ x3, (List.mem_singleton.mp z) ▸ x2⟩
    have N₂ : News h₀ env.locals h₂ (own ++ ((D, listOf ys.toArray k) :: (cm, om₂) :: (cp, op₂) :: tups)) := by
      intro q hq
      rcases List.mem_append.mp hq with hq | hq
      · have z := N₁ q (List.mem_append_left _ hq)
        exact ⟨hk₂ _ _ (off q hq).1 (off q hq).2 z.1, z.2⟩
      rcases List.mem_cons.mp hq with rfl | hq
      · have z := N₁ _ (mem _ (.head _))
        exact ⟨hk₂ _ _ n2 n1 z.1, z.2⟩
      rcases List.mem_cons.mp hq with rfl | hq
      · exact ⟨em₂, eM.2⟩
      rcases List.mem_cons.mp hq with rfl | hq
      · exact ⟨ep₂, eP.2⟩
      · have z := N₁ q (mem _ (.tail _ (.tail _ (.tail _ hq))))
        exact ⟨hk₂ _ _ (x6 q hq).2.1 (x6 q hq).1 z.1, z.2⟩
    have mem₂ : ∀ q ∈ (D, listOf ys.toArray k) :: (cm, om₂) :: (cp, op₂) :: tups, q ∈ own ++ ((D, listOf ys.toArray k) :: (cm, om₂) :: (cp, op₂) :: tups) := fun q hq => List.mem_append_right _ hq
    have eD := (N₂ _ (mem₂ _ (.head _))).1
    refine wpAny_execs_cons ?_
    refine hbody { s with heap := h₂, toks := tk₂ } m₁ _ D ys _ p k' t t' op₂ om₂ _ _ F₂ N₂ hf ⟨_, eD, rfl, _, rfl⟩ hy (mem₂ _ (.tail _ (.tail _ (.head _)))) dp₂ (mem₂ _ (.tail _ (.head _))) dm₂ ((okL_at ps [1] hok).1 i (p, k') hps) fun D' ys' h₃ tk₃ F₃ N₃ hgt hy₃ => ?_
    refine wpAny_execs_nil ?_
    obtain ⟨oI, eI, _⟩ := hst₁.1
    have hI : (h'.objs.size, oI) ∈ own := hall _ (.head _) new _ eI
    refine LoopStepV.next (LoopStepU.intro (tk := tk₃) (news₂ := (D', lst ys') :: (cm, om₂) :: (cp, op₂) :: tups) F₃ ?_ ?_ ?_)
    · intro q hq
      rcases List.mem_append.mp hq with hq | hq
      · exact N₃ q (.tail _ (List.mem_append_left _ hq))
      rcases List.mem_cons.mp hq with rfl | hq
      · exact N₃ _ (.head _)
      · exact N₃ q (.tail _ (mem₂ _ (.tail _ hq)))
    · intro q hq hm
      rcases List.mem_cons.mp hq with rfl | hq
      · have z : D' = h'.objs.size := List.mem_singleton.mp hm
        have q : h'.objs.size < D' := hgt _ (List.mem_append_left _ hI)
        exact absurd q (z ▸ Nat.lt_irrefl _)
      rcases List.mem_cons.mp hq with rfl | hq
      · exact hoff _ (.tail _ (.head _)) hm
      rcases List.mem_cons.mp hq with rfl | hq
      · exact hoff _ (.tail _ (.tail _ (.head _))) hm
      · exact hoff q (.tail _ (.tail _ (.tail _ hq))) hm
    · refine ⟨D', lst ys', ys', _, op₂, om₂, _, _, by simp, rfl, dm₂, dp₂, rfl, ?_, ?_, ?_⟩
      · have e : divF (ps.take (i + 1)) = pows p k' (divF (ps.take i)) := by
          unfold divF
          rw [List.take_add_one, hps, List.foldl_append]
          rfl
        rw [e]; exact hy₃
      · exact Nat.ne_of_gt (hgt _ (mem₂ _ (.tail _ (.head _))))
      · exact Nat.ne_of_gt (hgt _ (mem₂ _ (.tail _ (.tail _ (.head _)))))
  · rintro h₁ tk₁ m' news' F₁ N₁ hoff ⟨D, od, ys, k, ocp', ocm', vp', vm', hf, rfl, dm, dp, rfl, hy, n1, n2⟩
    rw [show vs.toArray.size = ps.length by simp [hP.length], List.take_length] at hy
    exact done D ys k h₁ tk₁ m' F₁ hf (fun q hq => N₁ q (by rw [List.mem_singleton.mp hq]; exact .head _)) hy
end
end Mine
end
section -- Div
open PySem PySem.W PySem.Calls PyProof.Rows PyProof.Rows.LCg
namespace Mine
theorem prs_news {H h₀ h : Heap} {L : Addr} {vs : List Value} {ps : List (Int × Int)} (P : PrsH H h vs ps) (hL : ∃ o, H.get? L = some o) (hk : ∀ b o, h₀.get? b = some o → H.get? b = some o) :
    ∃ tups, PrsL tups vs ps ∧ PyProof.Rows.News h₀ L h tups ∧ ∀ q ∈ tups, H.get? q.1 = none ∧ q.2.cls = .type "tuple" := by
  induction P with
  | nil => exact ⟨[], .nil, fun _ h => (nomatch h), fun _ h => (nomatch h)⟩
  | @cons T p k t t' vs ps e n _ ih =>
    obtain ⟨tups, a, b, c⟩ := ih
    refine ⟨(T, tupOf2 [.int p t, .int k t']) :: tups, .cons (.head _) (a.mono fun q hq => .tail _ hq), ?_, ?_⟩
    · intro q hq
      rcases List.mem_cons.mp hq with rfl | hq
      · refine ⟨e, fun z => ?_, ?_⟩
        · obtain ⟨o, ho⟩ := hL
          have z' : T = L := z
          rw [z', ho] at n; cases n
        · cases q : h₀.get? T with
          | none => rfl
          | some o => rw [hk _ _ q] at n; cases n
      · exact b q hq
    · intro q hq
      rcases List.mem_cons.mp hq with rfl | hq
      · exact ⟨n, rfl⟩
      · exact c q hq
theorem pfF_len : ∀ (k : Nat) (n b : Int) (acc : List (Int × Int)), (pfF k n b acc).length ≤ acc.length + k
  | 0, _, _, _ => Nat.le_refl _
  | k + 1, n, b, acc => by
    unfold pfF
    split
    · refine Nat.le_trans (pfF_len k _ _ _) ?_
      rw [List.length_append, List.length_singleton]; omega
    · omega
theorem facs_len {n : Int} (h : n < 2 ^ 22) : (facs n).length ≤ sizeLine := by
  have := pfF_len n.toNat n 2 []
  rw [List.length_nil] at this
  rw [sizeLine_eq]
  unfold facs
  omega
section
variable {w : World} {mean : ExcName → Option Value} {mg mb : Str → Option Value} {dp un : Nat} {gd : Option (List Code)} {cn : Str} {cs : Scope} {a : Addr} {ccd : Value} {cl : List (Str × Addr)} {outer : List Env} {A₀ : Around} {base h₀ : Heap} {L : Addr} {m : Str → Option Value} {s : Shared} {Q E : Value → Shared → Prop} {news : List (Addr × Obj)}
theorem pf_use {n : Int} {tn : Tok} (B : Below A₀ base outer h₀) (F : Fr h₀ L s.heap m) (N : PyProof.Rows.News h₀ L s.heap news) (X : (hd.heap_39 w.params).In h₀) (T : Top hd.view_39 (looseW hd.view_39 []) mean mg mb h₀) (hk : cs.kind = .function)
    (hd : dp + 6 < recursionLimit) (hu : un + 8 * 6 < cLine) (hn : 1 ≤ n) (hn2 : n < 2 ^ 22)
    (ret : ∀ fl vs cap tups h' tk', Fr h₀ L h' m → PyProof.Rows.News h₀ L h' ((fl, listOf (List.toArray vs) cap) :: (news ++ tups)) → PrsL tups vs (facs n) → (∀ p ∈ news, fl ≠ p.1) → (∀ q ∈ tups, q.1 ≠ fl ∧ ∀ p ∈ news, q.1 ≠ p.1) → Q (.ref fl) { s with heap := h', toks := tk' }) :
    wpAny (model PySem.Challenge.rw_sy0001_01.row.prog w) (ktrTop dp un gd cn cs L a ccd cl outer) (call (.ref 98) [.int n tn]) Q E s :=
  (pf_c w mean mg mb n tn hn hn2) dp un gd cn cs a ccd cl outer A₀ base h₀ L m s Q E B F X T hk hd hu trivial fun v h' tk' hk' hp => by
    obtain ⟨fl, vs, cap, rfl, e, n0, P⟩ := hp
    obtain ⟨oL, _, _, eL, _⟩ := F.ns
    obtain ⟨tups, PL, NT, c⟩ := prs_news (L := L) P ⟨oL, eL⟩ F.keep
    have hnew : ∀ b, s.heap.get? b = none → b ≠ L ∧ h₀.get? b = none := fun b hb => ⟨fun z => (by rw [z, eL] at hb; cases hb), (by
      cases q : h₀.get? b with
      | none => rfl
      | some o => rw [F.keep _ _ q] at hb; cases hb)⟩
    have hap : ∀ b, s.heap.get? b = none → ∀ p ∈ news, b ≠ p.1 := fun b hb p hp z => by rw [z, (N p hp).1] at hb; cases hb
    refine ret fl vs cap tups h' tk' (F.keeps hk') ?_ PL (hap fl n0) fun q hq => ⟨fun z => ?_, hap _ (c q hq).1⟩
    · intro q hq
      rcases List.mem_cons.mp hq with rfl | hq
      · exact ⟨e, hnew _ n0⟩
      rcases List.mem_append.mp hq with hq | hq
      · exact (N.grown hk') q hq
      · exact NT q hq
    · have e' := (NT q hq).1
      rw [z, e] at e'
      have := (c q hq).2
      rw [← Option.some.inj e'] at this
      exact absurd (Value.type.inj this) (by decide)
end
local macro_rules | `(tactic| k_all) => `(tactic| assumption)
local macro_rules | `(tactic| walk_at "exec For Tuple Call cons nil") => `(tactic| (k_here; refine stopN ?_))
local macro_rules | `(tactic| walk_at "call ref") => `(tactic| (k_here; refine stopN ?_))
local macro_rules | `(tactic| walk_at "call builtin:sorted") => `(tactic| (k_here; refine stopN ?_))
def DivPost (n : Int) (H : Heap) (v : Value) (h : Heap) : Prop :=
  ∃ D vs k ds, v = .ref D ∧ h.get? D = some (listOf (List.toArray vs) k) ∧ H.get? D = none ∧ IntsAre vs ds ∧ List.Perm ds (divF (facs n))
set_option maxRecDepth 100000 in
set_option maxHeartbeats 8000000 in
theorem div_c (w : World) (mean : ExcName → Option Value) (mg mb : Str → Option Value) (n0 : Int) (tn : Tok) (hn : 1 ≤ n0) (hn2 : n0 < 2 ^ 22) (hok : okL [1] (facs n0) = true) :
   CtrK w mean mg mb 103 [.int n0 tn] 12 (fun _ => True) (DivPost n0) := by
  unfold CtrK TP KK PR
  w_top off
  k_fill
  intro dp un gd cn cs a ccd cl outer A₀ base h₀ L m s Q E B F X T hk hd hu _ hret
  refine wpAny_call ?_
  k_dflt (first | (refine' enter_plain ?k1Zk ?k2Zk ?k3Zk ?k5Zk ?kAZk ?kFZk ?kKZk ?k6Zk ?k7Zk ?k8Zk ?k9Zk ?kBZk ?_ ?c2Zk ?c3Zk ?c4Zk ?c5Zk; (case kAZk => exact rfl); (case kFZk => exact rfl); (case kKZk => assumption); (case k1Zk => k_asm); (case k2Zk => k_asm); (case k3Zk => k_asm); (case k5Zk => k_asm); (case k6Zk => k_is); (case k7Zk => k_is); (case k8Zk => ktr_room); (case k9Zk => exact BindsTo.of_eq rfl); (case c5Zk => decide); (case kBZk => exact locs rfl); (case c2Zk => exact rfl); (case c3Zk => exact rfl); (case c4Zk => exact rfl); k_whole; intro L' h' FG' F' N' B' X' T'; (try dsimp only); (try k_lift B'); (try k_fold)) | (refine' enter_cells ?k1Zk ?k2Zk ?k3Zk ?k5Zk ?kAZk ?kFZk ?kKZk ?k6Zk ?k7Zk ?k8Zk ?k9Zk ?kBZk ?kDZk ?_ ?c2Zk ?c3Zk ?c4Zk; (case kAZk => exact rfl); (case kFZk => exact rfl); (case kKZk => assumption); (case k1Zk => k_asm); (case k2Zk => k_asm); (case k3Zk => k_asm); (case k5Zk => k_asm); (case k6Zk => k_is); (case k7Zk => k_is); (case k8Zk => ktr_room); (case k9Zk => exact BindsTo.of_eq rfl); (case kBZk => exact rfl); (case kDZk => decide +kernel); (case c2Zk => exact rfl); (case c3Zk => exact rfl); (case c4Zk => exact rfl); k_whole; intro L' h' tk' cells' FG' F' N' Y' B' X' T'; k_cells Y'; (try simp only [List.cons_append, List.nil_append] at N'); (try dsimp only); (try k_lift B'); (try k_fold)))
  k_steps
  unfold StopN
  rename Fr s.heap _ _ _ => lF
  rename PyProof.Rows.News s.heap _ _ _ => lN
  refine' div_for (found := Str.ofString "found") (ps := facs n0) ?hh lF lN ?g1 ?g2 ?g3 ?g4 ?g5 ?g6 ?g7 ?g8 ?g9 ?g10 hok ?hit ?hbody ?done ?hs ?hE
  case hh => rfl
  case g1 => rfl
  case g2 => rfl
  case g3 => rfl
  case g4 => rfl
  case g5 => rfl
  case g6 => exact Nat.ne_of_lt (Nat.lt_succ_self _)
  case g7 => with_unfolding_all rfl
  case g8 => exact .cons _ _ .nil
  case g9 => with_unfolding_all assumption
  case g10 => with_unfolding_all assumption
  case hs => intro _; rfl
  case hE => first | passes_own | with_unfolding_all passes_own
  case hit =>
    k_steps
    unfold StopN
    rw [if_neg (by omega)]
    k_dflt (refine' pf_use ?k1 lF lN ?k4 ?k5 ?kK ?kd ?ku hn hn2 ?_; (case k1 => k_asm); (case k4 => k_asm); (case k5 => k_asm); (case kK => first | exact rfl | assumption); (case kd => ktr_room); (case ku => ktr_units))
    intro fl vs cap tups h5 tk5 F5 N5 P5 q1 q2
    refine ⟨h5, tk5, fl, vs, cap, tups, rfl, rfl, F5, N5, P5, ?_, ?_, ?_, ?_, ?_, ?_, ?_⟩
    · rw [P5.length]; exact facs_len hn2
    · exact q1 _ (.head _)
    · exact q1 _ (.tail _ (.head _))
    · exact q1 _ (.tail _ (.tail _ (.head _)))
    · show @Ne Nat _ _; omega
    · show @Ne Nat _ _; omega
    · exact fun q hq => ⟨(q2 q hq).2 _ (.tail _ (.head _)), (q2 q hq).2 _ (.tail _ (.tail _ (.head _))), (q2 q hq).1⟩
  case hbody =>
    intro s₁ m₁ news₁ D ys ds pv kv tp tk ocp ocm Q' E' F₁ N₁ hf hl hi hmp hdp hmm hdm hokp hq
    obtain ⟨b1, b2, b3, b4, b5, b6⟩ := okP_open hokp
    refine' pow_assign (A := _) ?a1 F₁ N₁ ?a2 ?a3 hl hi hmp hdp hmm hdm b1 b2 b3 b4 b5 b6 ?a4 ?a5 ?a6 ?a7 ?a8 ?a9 ?a10 ?a11 ?a12 ?a13 ?a14 ?a15 ?a16 ?a17 ?a18 ?a19 ?a20 ?a21 ?a22 ?a23 ?a24 ?a25 ?a26 ?a27 hq ?a29
    case a1 => rfl
    case a2 => k_asm
    case a3 => k_asm
    case a4 => k_is
    case a5 => boot_by_name
    case a6 => rfl
    case a7 => rfl
    case a8 => with_unfolding_all rfl
    case a9 => with_unfolding_all rfl
    case a10 => decide
    case a11 => rfl
    case a12 => decide
    case a13 => rfl
    case a14 => rfl
    case a15 => decide
    case a16 => intro _; rfl
    case a17 => intro _; rfl
    case a18 => rfl
    case a19 => rfl
    case a20 => intro _; rfl
    case a21 => decide
    case a22 => decide
    case a23 => decide
    case a24 => decide
    case a25 => rfl
    case a26 => rfl
    case a27 =>
      intro Q'' hq''
      exact wpAny_Name (wpAny_loadName_local rfl rfl F₁.ns hf hq'') rfl
    case a29 => intro _; rfl
  case done =>
    intro D ys k h' tk m' F₁ hf N₁ hy
    have e : (fun z => if z = Str.ofString "found" then some (Value.ref D) else m' z) = m' := by
      funext z
      split
      · rename_i hz
        rw [hz, hf]
      · rfl
    rw [← e] at F₁
    clear lF lN
    k_steps
    unfold StopN
    rename Fr s.heap _ _ _ => lF2
    rename PyProof.Rows.News s.heap _ _ _ => lN2
    refine kso_sorted lF2 lN2 ⟨_, (lN2 _ (.head _)).1, rfl, _, rfl⟩ hy (okL_at (facs n0) [1] hok).2.2.1 fun D2 vs' ns' c h2 F2 N2 lt i2 e2 p2 o2 b2 => ?_
    k_steps
    exact hret _ _ _ F2.keep ⟨D2, vs', c, ns', rfl, (N2 _ (.head _)).1, (N2 _ (.head _)).2.2, i2, p2⟩
end Mine
end
section -- ZipAt
set_option maxRecDepth 100000
open PySem PySem.W PySem.Calls PyProof.Rows PyProof.V PySem.Spec PyProof.Rows.LCg
namespace Mine
theorem nm2 {a b c : Nat} (h1 : a ≠ b) (h2 : a ≠ c) : @Not (@Membership.mem Nat (List Nat) _ [b, c] a) := fun h => by
  rcases List.mem_cons.mp h with q | h
  · exact h1 q
  · exact h2 (List.mem_singleton.mp h)
theorem zap {B l1 l2 : Nat} (h1 : l1 < B) (h2 : l2 < B) : ZApart (B + 4) (B + 2) (B + 3) B (B + 1) [B, l1] [B + 1, l2] where
  zTI := by show @Ne Nat _ _; omega
  zTO := by show @Ne Nat _ _; omega
  TITO := by show @Ne Nat _ _; omega
  z1 := nm2 (by omega) (by omega)
  z2 := nm2 (by omega) (by omega)
  TI1 := nm2 (by omega) (by omega)
  TI2 := nm2 (by omega) (by omega)
  TO1 := nm2 (by omega) (by omega)
  TO2 := nm2 (by omega) (by omega)
  m1 := .head _
  m2 := .head _
  n12 := nm2 (by omega) (by omega)
  n21 := nm2 (by omega) (by omega)
section
variable {prog : Program} {w : World} {A : Around} {E : Value → Shared → Prop} {s : Shared}
theorem zip_pair_at {env : Env} {elt : PySem.Expr} {a b : Str} {pa pb tp : Pos} {kk : Nat} {scope : Scope} {cl : List (Str × Addr)} {Q : Value → Shared → Prop} {l1 l2 : Addr} {n : Nat} {P1 P2 : Nat → Value → Prop} {St1 St2 : Nat → Heap → Prop} {h' : Heap}
    (D1 : Draws prog w A.in1 s.heap.objs.size [s.heap.objs.size, l1] n P1 St1) (D2 : Draws prog w A.in1 (s.heap.objs.size + 1) [s.heap.objs.size + 1, l2] n P2 St2) (hl1 : l1 < s.heap.objs.size) (hl2 : l2 < s.heap.objs.size)
    (hsz : n ≤ sizeLine) (hh : A.handled = none)
    (hZ : IsZip h' (s.heap.objs.size + 4) (s.heap.objs.size + 2) (s.heap.objs.size + 3) .none) (hTI : IsPair h' (s.heap.objs.size + 2) (.ref s.heap.objs.size) (.ref (s.heap.objs.size + 1)))
    (hTO : IsPair h' (s.heap.objs.size + 3) .none .none) (st1 : St1 0 h') (st2 : St2 0 h') (hsz' : h'.objs.size = s.heap.objs.size + 5) (hk : ∀ c o, s.heap.get? c = some o → h'.get? c = some o)
    (hxa : scope.names.lookup a = some .local) (hxb : scope.names.lookup b = some .local) (hab : ¬ a = b) (hkind : scope.kind = .function) (Y : Nat → Value → Prop)
    (turn : ∀ (i : Nat) x y C h tk m₂ (E' : Value → Shared → Prop), i < n → P1 i x → P2 i y → h.Ns C m₂ → m₂ a = some x → m₂ b = some y → (∀ c o, s.heap.get? c = some o → h.get? c = some o) →
      wpAny (model prog w) A (eval elt (compEnvC scope cl C env)) (fun r s₄ => (∃ tk', s₄ = { s with heap := h, toks := tk' }) ∧ Y i r) E' { s with heap := h, toks := tk })
    (done : ∀ ys D h tk, ys.length = n → (∀ (j : Nat) y, ys[j]? = some y → Y j y) → h.get? D = some (lst ys) → s.heap.objs.size ≤ D → (∀ c o, s.heap.get? c = some o → h.get? c = some o) → Q (.ref D) { s with heap := h, toks := tk }) :
    wpAny (model prog w) A (pyIter (.ref (s.heap.objs.size + 4))) (CompAt prog w A env elt (.Tuple [.Name a pa, .Name b pb] kk tp) scope cl Q) E { s with heap := h' } := by
  have hzg : ZipG h' (s.heap.objs.size + 4) (s.heap.objs.size + 2) (s.heap.objs.size + 3) := ⟨_, _, .inl rfl, hZ⟩
  refine zip_self hzg ?_
  have X := zap hl1 hl2
  have lt5 : ∀ k, k < 5 → s.heap.objs.size + k < h'.objs.size := fun k q => by rw [hsz']; exact Nat.add_lt_add_left q _
  have up : ∀ (h : Heap), Ext ((h'.objs.size + 1) :: h'.objs.size :: [s.heap.objs.size + 4, s.heap.objs.size + 3, s.heap.objs.size, s.heap.objs.size + 1]) h' h → ∀ c o, s.heap.get? c = some o → h.get? c = some o := fun h hx c o e => by
    have hc := Heap.lt_size e
    refine hx c o (fun hm => ?_) (hk c o e)
    have hne : ∀ k, c ≠ s.heap.objs.size + k := fun k q => absurd hc (q ▸ Nat.not_lt.mpr (Nat.le_add_right _ k))
    rw [hsz'] at hm
    simp only [List.mem_cons, List.not_mem_nil, or_false] at hm
    rcases hm with q | q | q | q | q | q
    · exact hne 6 q
    · exact hne 5 q
    · exact hne 4 q
    · exact hne 3 q
    · exact hne 0 q
    · exact hne 1 q
  refine CompAt.pair (s := { s with heap := h' }) (P1 := P1) (P2 := P2) (zip_turns D1 D2 X) hsz ?_ ⟨hzg, hTI, ⟨_, _, hTO⟩, st1, st2⟩ hh hxa hxb hab hkind ?_ ?_ Y ?_ ?_
  · intro c hc
    show c < h'.objs.size
    rcases List.mem_cons.mp hc with rfl | hc
    · exact lt5 4 (by decide)
    rcases List.mem_cons.mp hc with rfl | hc
    · exact lt5 2 (by decide)
    rcases List.mem_cons.mp hc with rfl | hc
    · exact lt5 3 (by decide)
    rcases List.mem_append.mp hc with hc | hc
    · rcases List.mem_cons.mp hc with rfl | hc
      · exact lt5 0 (by decide)
      · exact Nat.lt_trans ((List.mem_singleton.mp hc) ▸ hl1) (lt5 0 (by decide))
    · rcases List.mem_cons.mp hc with rfl | hc
      · exact lt5 1 (by decide)
      · exact Nat.lt_trans ((List.mem_singleton.mp hc) ▸ hl2) (lt5 0 (by decide))
  · intro s₃ Q' E' st q
    exact zip_self st.1 q
  · exact fun i v h p => p
  · intro i x y h tk m₂ E' hi p1 p2 hm ha hb hx
    exact turn i x y _ h tk m₂ E' hi p1 p2 hm ha hb (up h hx)
  · intro ys h tk hlen hy hD hx
    exact done ys _ h tk hlen hy hD (by show _ ≤ h'.objs.size; rw [hsz']; exact Nat.le_add_right _ 5) (up h hx)
/-- zip of two lists of one length in a block -/
theorem zip_ll_at {env : Env} {elt : PySem.Expr} {a b : Str} {pa pb tp : Pos} {kk : Nat} {scope : Scope} {cl : List (Str × Addr)} {Q : Value → Shared → Prop} {l1 l2 : Addr} {xs ys : Array Value} (hl1 : s.heap.IsList l1 xs) (hl2 : s.heap.IsList l2 ys) (hlen : ys.size = xs.size) (hsz : xs.size ≤ sizeLine) (hh : A.handled = none)
    (hxa : scope.names.lookup a = some .local) (hxb : scope.names.lookup b = some .local) (hab : ¬ a = b) (hkind : scope.kind = .function) (Y : Nat → Value → Prop)
    (turn : ∀ (i : Nat) x y C h tk m₂ (E' : Value → Shared → Prop), i < xs.size → xs[i]? = some x → ys[i]? = some y → h.Ns C m₂ → m₂ a = some x → m₂ b = some y → (∀ c o, s.heap.get? c = some o → h.get? c = some o) →
      wpAny (model prog w) A (eval elt (compEnvC scope cl C env)) (fun r s₄ => (∃ tk', s₄ = { s with heap := h, toks := tk' }) ∧ Y i r) E' { s with heap := h, toks := tk })
    (done : ∀ vs D h tk, vs.length = xs.size → (∀ (j : Nat) y, vs[j]? = some y → Y j y) → h.get? D = some (lst vs) → s.heap.objs.size ≤ D → (∀ c o, s.heap.get? c = some o → h.get? c = some o) → Q (.ref D) { s with heap := h, toks := tk }) :
    wpAny (model prog w) A (call (.type "zip") [.ref l1, .ref l2]) (fun xv s₁ => wpAny (model prog w) A (pyIter xv) (CompAt prog w A env elt (.Tuple [.Name a pa, .Name b pb] kk tp) scope cl Q) E s₁) E s := by
  have h1 : l1 < s.heap.objs.size := by obtain ⟨o, e, _⟩ := hl1; exact Heap.lt_size e
  have h2 : l2 < s.heap.objs.size := by obtain ⟨o, e, _⟩ := hl2; exact Heap.lt_size e
  refine call_zip_2 hl1 hl2 fun h' hZ hTI hTO i1 i2 hsz' hk => ?_
  have D1 := Draws.list (prog := prog) (w := w) (A := A.in1) hh s.heap.objs.size l1 (Nat.ne_of_lt h1) xs
  have D2 := Draws.list (prog := prog) (w := w) (A := A.in1) hh (s.heap.objs.size + 1) l2 (Nat.ne_of_lt (Nat.lt_succ_of_lt h2)) ys
  rw [hlen] at D2
  exact zip_pair_at D1 D2 h1 h2 hsz hh hZ hTI hTO ⟨i1, hl1.at fun o e => hk _ o e⟩ ⟨i2, hl2.at fun o e => hk _ o e⟩ hsz' hk hxa hxb hab hkind Y turn done
/-- zip of a list and a tuple of one length in a block -/
theorem zip_lt_at {env : Env} {elt : PySem.Expr} {a b : Str} {pa pb tp : Pos} {kk : Nat} {scope : Scope} {cl : List (Str × Addr)} {Q : Value → Shared → Prop} {l1 l2 : Addr} {xs ys : Array Value} (hl1 : s.heap.IsList l1 xs) (hl2 : s.heap.IsTuple l2 ys) (hlen : ys.size = xs.size) (hsz : xs.size ≤ sizeLine) (hh : A.handled = none)
    (hxa : scope.names.lookup a = some .local) (hxb : scope.names.lookup b = some .local) (hab : ¬ a = b) (hkind : scope.kind = .function) (Y : Nat → Value → Prop)
    (turn : ∀ (i : Nat) x y C h tk m₂ (E' : Value → Shared → Prop), i < xs.size → xs[i]? = some x → ys[i]? = some y → h.Ns C m₂ → m₂ a = some x → m₂ b = some y → (∀ c o, s.heap.get? c = some o → h.get? c = some o) →
      wpAny (model prog w) A (eval elt (compEnvC scope cl C env)) (fun r s₄ => (∃ tk', s₄ = { s with heap := h, toks := tk' }) ∧ Y i r) E' { s with heap := h, toks := tk })
    (done : ∀ vs D h tk, vs.length = xs.size → (∀ (j : Nat) y, vs[j]? = some y → Y j y) → h.get? D = some (lst vs) → s.heap.objs.size ≤ D → (∀ c o, s.heap.get? c = some o → h.get? c = some o) → Q (.ref D) { s with heap := h, toks := tk }) :
    wpAny (model prog w) A (call (.type "zip") [.ref l1, .ref l2]) (fun xv s₁ => wpAny (model prog w) A (pyIter xv) (CompAt prog w A env elt (.Tuple [.Name a pa, .Name b pb] kk tp) scope cl Q) E s₁) E s := by
  have h1 : l1 < s.heap.objs.size := by obtain ⟨o, e, _⟩ := hl1; exact Heap.lt_size e
  have h2 : l2 < s.heap.objs.size := by obtain ⟨o, e, _⟩ := hl2; exact Heap.lt_size e
  refine call_zip_lt hl1 hl2 fun h' hZ hTI hTO i1 i2 hsz' hk => ?_
  have D1 := Draws.list (prog := prog) (w := w) (A := A.in1) hh s.heap.objs.size l1 (Nat.ne_of_lt h1) xs
  have D2 := draws_tuple (prog := prog) (w := w) (A := A.in1) hh (s.heap.objs.size + 1) l2 (Nat.ne_of_lt (Nat.lt_succ_of_lt h2)) ys
  rw [hlen] at D2
  exact zip_pair_at D1 D2 h1 h2 hsz hh hZ hTI hTO ⟨i1, hl1.at fun o e => hk _ o e⟩ ⟨i2, by obtain ⟨o, e, r⟩ := hl2; exact ⟨o, hk _ _ e, r⟩⟩ hsz' hk hxa hxb hab hkind Y turn done
end
end Mine
end
section -- Draw
open PySem PySem.W PySem.Calls PyProof.Rows PyProof.Rows.LCg
namespace Mine
theorem item_ints {prog : Program} {w : World} {A : Around} {E : Value → Shared → Prop} {s : Shared} {value slice : PySem.Expr} {l : Addr} {vs : List Value} {ns : List Int} {k : Int} {u : Tok} {Q : Value → Shared → Prop}
    (hl : s.heap.IsList l vs.toArray) (hi : IntsAre vs ns) (h0 : 0 ≤ k) (hlt : k < (vs.toArray.size : Int)) (hhi : k < 2 ^ 63) (h : ∀ n t, n ∈ ns → Q (.int n t) s)
    (hs : subscripted slice false (.ref l) (.int k u) = operate [.ref l, .int k u] (getItem (.ref l) (.int k u))) : wpAny (model prog w) A (subscriptTail value slice (.ref l) (.int k u)) Q E s := by
  have hlt' : k.toNat < ns.length := by rw [← hi.length]; rw [List.size_toArray] at hlt; omega
  obtain ⟨t, e⟩ := hi.get k.toNat ns[k.toNat] (by simp [hlt'])
  exact item_written hl h0 hhi e (h _ _ (List.getElem_mem hlt')) hs
local macro_rules | `(tactic| k_all) => `(tactic| assumption)
local macro_rules | `(tactic| walk_at "call builtin:len") => `(tactic| (k_here; (with_reducible show wpAny _ _ (call (Value.builtin _) [Value.ref _]) _ _ _); k_dflt ((refine' call_len_list ?k1 ?k2 ?_); (case k1 => is_list); (case k2 => assumption))))
local macro_rules | `(tactic| walk_at "subscriptTail Subscript Name ref int") => `(tactic| (k_here; (with_reducible show wpAny _ _ (subscriptTail _ _ (Value.ref _) (Value.int _ _)) _ _ _); k_dflt ((refine' item_ints ?k1 ?k2 ?k3 ?k4 ?k5 ?_ ?k6); (case k1 => is_list); (case k2 => assumption); (case k3 => omega); (case k4 => assumption); (case k5 => omega); (case k6 => with_unfolding_all rfl); intro n9 t9 m9)))
set_option maxRecDepth 100000 in
set_option maxHeartbeats 8000000 in
theorem draw_c (w : World) (mean : ExcName → Option Value) (mg mb : Str → Option Value) (pl l0 : Addr) (vs : List Value) (ns : List Int) (k0 : Nat) (i : Int) (ti tm : Tok) (many : Int) (hm : 0 < many) (hi : IntsAre vs ns) (h0 : 0 ≤ i) (hi2 : i < 1000) (hap : @Ne Nat l0 pl) (rest : List (Addr × Obj)) (hrest : ∀ p ∈ rest, p.1 ≠ pl) (hsz : (vs.toArray.size : Int) < 2 ^ 63) :
   Ctr w mean mg mb 110 ((pl, listOf #[.ref l0, .int i ti] k0) :: (l0, lst vs) :: rest) [.ref pl, .int many tm] 4
     (fun v news' => ∃ x t t' k1, v = .int x t ∧ 0 ≤ x ∧ x < many ∧ news' = (pl, listOf #[.ref l0, .int (i + 1) t'] k1) :: (l0, lst vs) :: rest) := by
  unfold Ctr TP KK PR
  w_top off
  k_fill
  intro dp un gd cn cs a ccd cl outer A₀ base h₀ L m s Q E B F X N T hk hd hu hret
  refine wpAny_call ?_
  k_dflt cell_enter
  k_steps
  all_goals
    rename Fr h₀ L _ _ => lF
    rename News h₀ L _ _ => lN
    exact hret _ _ _ _ lF lN ⟨_, _, _, _, rfl, Int.fmod_nonneg_of_pos _ hm, Int.fmod_lt_of_pos _ hm, rfl⟩
end Mine
end
section -- LDot
open PySem PySem.W PySem.Calls PyProof.Rows PyProof.Rows.LCg
namespace Mine
section
variable {prog : Program} {w : World} {A : Around} {E : Value → Shared → Prop} {s : Shared}
/-- left * right, at one turn -/
theorem mul_turn {env : Env} {one other : Str} {p1 p2 p3 : Pos} {scope : Scope} {cl : List (Str × Addr)} {va vb : List Value} {xs ys : List Int} {i : Nat} {x y : Value} {C : Addr} {h : Heap} {tk : Nat} {m₂ : Str → Option Value} (hi : IntsAre va xs) (hj : IntsAre vb ys) (hlen : xs.length = ys.length) (hb : ∀ x ∈ xs, -2 ^ 64 < x ∧ x < 2 ^ 64)
    (hxa : scope.names.lookup one = some .local) (hxb : scope.names.lookup other = some .local) (hkind : scope.kind = .function) (hd1 : (one == ("__debug__" : Str)) = false) (hd2 : (other == ("__debug__" : Str)) = false)
    (hin : i < va.toArray.size) (hx : va.toArray[i]? = some x) (hy : vb.toArray[i]? = some y) (hns : h.Ns C m₂) (ha : m₂ one = some x) (hbb : m₂ other = some y) :
    wpAny (model prog w) A (eval (.BinOp (.Name one p1) .Mult (.Name other p2) p3) (compEnvC scope cl C env)) (fun r s₄ => (∃ tk', s₄ = { s with heap := h, toks := tk' }) ∧ ∃ n t, (List.zipWith (· * ·) xs ys)[i]? = some n ∧ r = .int n t) E { s with heap := h, toks := tk } := by
  have hin1 : i < xs.length := by rw [← hi.length]; simpa using hin
  have hin2 : i < ys.length := hlen ▸ hin1
  obtain ⟨u, hu⟩ := hi.get i xs[i] (by simp [hin1])
  obtain ⟨u', hu'⟩ := hj.get i ys[i] (by simp [hin2])
  have hx' : va[i]? = some x := by simpa using hx
  have hy' : vb[i]? = some y := by simpa using hy
  rw [hu] at hx'
  rw [hu'] at hy'
  obtain rfl := Option.some.inj hx'
  obtain rfl := Option.some.inj hy'
  refine wpAny_BinOp (ldVarK (m := m₂) hns ha ?_ (by exact hkind) (lookup_relabel_local hxa) hd1)
  refine ldVarK (m := m₂) hns hbb ?_ (by exact hkind) (lookup_relabel_local hxb) hd2
  refine mul_int ⟨⟨_, rfl⟩, xs[i] * ys[i], _, by rw [List.getElem?_zipWith, List.getElem?_eq_getElem hin1, List.getElem?_eq_getElem hin2], rfl⟩ ?_
  have := hb xs[i] (List.getElem_mem hin1)
  exact IntMulOk.of_left (intBits_le_64 this.1 this.2)

theorem zdot_ll {env : Env} {one other : Str} {p1 p2 p3 pa pb tp : Pos} {kk : Nat} {scope : Scope} {cl : List (Str × Addr)} {Q : Value → Shared → Prop} {la lb : Addr} {va vb : List Value} {xs ys : List Int} {h₀ : Heap} {L : Addr} {m : Str → Option Value}
    (F : Fr h₀ L s.heap m) (hl : s.heap.IsList la va.toArray) (hl2 : s.heap.IsList lb vb.toArray ∨ s.heap.IsTuple lb vb.toArray) (hi : IntsAre va xs) (hj : IntsAre vb ys) (hlen : xs.length = ys.length) (hsz : xs.length ≤ sizeLine) (hb : ∀ x ∈ xs, -2 ^ 64 < x ∧ x < 2 ^ 64) (hh : A.handled = none)
    (hxa : scope.names.lookup one = some .local) (hxb : scope.names.lookup other = some .local) (hab : ¬ one = other) (hkind : scope.kind = .function) (hd1 : (one == ("__debug__" : Str)) = false) (hd2 : (other == ("__debug__" : Str)) = false)
    (done : ∀ D h tk vs, Fr h₀ L h m → News h₀ L h [(D, lst vs)] → IntsAre vs (List.zipWith (· * ·) xs ys) → Q (.ref D) { s with heap := h, toks := tk }) :
    wpAny (model prog w) A (call (.type "zip") [.ref la, .ref lb]) (fun xv s₁ => wpAny (model prog w) A (pyIter xv) (CompAt prog w A env (.BinOp (.Name one p1) .Mult (.Name other p2) p3) (.Tuple [.Name one pa, .Name other pb] kk tp) scope cl Q) E s₁) E s := by
  have e1 : va.toArray.size = xs.length := by simp [hi.length]
  have e2 : vb.toArray.size = va.toArray.size := by simp [hi.length, hj.length, hlen]
  have fin : ∀ vs D h tk, vs.length = va.toArray.size → (∀ (j : Nat) y, vs[j]? = some y → ∃ n t, (List.zipWith (· * ·) xs ys)[j]? = some n ∧ y = .int n t) → h.get? D = some (lst vs) → s.heap.objs.size ≤ D → (∀ c o, s.heap.get? c = some o → h.get? c = some o) → Q (.ref D) { s with heap := h, toks := tk } := by
    intro vs D h tk hl hy hD hge hk
    refine done D h tk vs (F.keeps hk) (fun p hp => ?_) (ints_of_fn ?_ hy)
    · rw [List.mem_singleton.mp hp]
      refine ⟨hD, fun e => ?_, ?_⟩
      · exact absurd F.ns.lt (Nat.not_lt.mpr (e ▸ hge))
      · show h₀.get? D = none
        cases e : h₀.get? D with
        | none => rfl
        | some o => exact absurd (Heap.lt_size (F.keep _ _ e)) (Nat.not_lt.mpr hge)
    · rw [hl, e1, List.length_zipWith, ← hlen, Nat.min_self]
  rcases hl2 with hl2 | hl2
  · exact zip_ll_at hl hl2 e2 (by rw [e1]; exact hsz) hh hxa hxb hab hkind _ (fun i x y C h tk m₂ E' hin hx hy hns ha hb' _ => mul_turn hi hj hlen hb hxa hxb hkind hd1 hd2 hin hx hy hns ha hb') fin
  · exact zip_lt_at hl hl2 e2 (by rw [e1]; exact hsz) hh hxa hxb hab hkind _ (fun i x y C h tk m₂ E' hin hx hy hns ha hb' _ => mul_turn hi hj hlen hb hxa hxb hkind hd1 hd2 hin hx hy hns ha hb') fin
end
local macro_rules | `(tactic| k_all) => `(tactic| assumption)
local macro_rules | `(tactic| walk_at "eval ListComp") => `(tactic| (k_here; k_dflt (refine comp_eval (by with_unfolding_all rfl) (by decide) (by rfl) (by decide) ?_)))
local macro_rules | `(tactic| walk_at "call type:zip") => `(tactic| (k_here; (with_reducible show wpAny _ _ (call (Value.type _) [Value.ref _, Value.ref _]) (fun xv s₁ => wpAny _ _ (pyIter xv) (CompAt _ _ _ _ _ _ _ _ _) _ _) _ _); refine holdR ?_))
set_option maxRecDepth 100000 in
set_option maxHeartbeats 8000000 in
theorem ldot_c (w : World) (mean : ExcName → Option Value) (mg mb : Str → Option Value) (la lb : Addr) (va vb : List Value) (xs ys : List Int) (hi : IntsAre va xs) (hj : IntsAre vb ys) (hlen : xs.length = ys.length) (hsz : xs.length ≤ sizeLine) (hbd : ∀ x ∈ xs, -2 ^ 64 < x ∧ x < 2 ^ 64) :
   CtrK w mean mg mb 115 [.ref la, .ref lb] 4 (fun h => h.IsList la va.toArray ∧ (h.IsList lb vb.toArray ∨ h.IsTuple lb vb.toArray)) (fun _ v _ => ∃ t, v = .int (dot xs ys) t) := by
  unfold CtrK TP KK PR
  w_top off
  k_fill
  intro dp un gd cn cs a ccd cl outer A₀ base h₀ L m s Q E B F X T hk hd hu hpre hret
  refine wpAny_call ?_
  k_dflt (first | (refine' enter_plain ?k1Zk ?k2Zk ?k3Zk ?k5Zk ?kAZk ?kFZk ?kKZk ?k6Zk ?k7Zk ?k8Zk ?k9Zk ?kBZk ?_ ?c2Zk ?c3Zk ?c4Zk ?c5Zk; (case kAZk => exact rfl); (case kFZk => exact rfl); (case kKZk => assumption); (case k1Zk => k_asm); (case k2Zk => k_asm); (case k3Zk => k_asm); (case k5Zk => k_asm); (case k6Zk => k_is); (case k7Zk => k_is); (case k8Zk => ktr_room); (case k9Zk => exact BindsTo.of_eq rfl); (case c5Zk => decide); (case kBZk => exact locs rfl); (case c2Zk => exact rfl); (case c3Zk => exact rfl); (case c4Zk => exact rfl); k_whole; intro L' h' FG' F' N' B' X' T'; (try dsimp only); (try k_lift B'); (try k_fold)) | (refine' enter_cells ?k1Zk ?k2Zk ?k3Zk ?k5Zk ?kAZk ?kFZk ?kKZk ?k6Zk ?k7Zk ?k8Zk ?k9Zk ?kBZk ?kDZk ?_ ?c2Zk ?c3Zk ?c4Zk; (case kAZk => exact rfl); (case kFZk => exact rfl); (case kKZk => assumption); (case k1Zk => k_asm); (case k2Zk => k_asm); (case k3Zk => k_asm); (case k5Zk => k_asm); (case k6Zk => k_is); (case k7Zk => k_is); (case k8Zk => ktr_room); (case k9Zk => exact BindsTo.of_eq rfl); (case kBZk => exact rfl); (case kDZk => decide +kernel); (case c2Zk => exact rfl); (case c3Zk => exact rfl); (case c4Zk => exact rfl); k_whole; intro L' h' tk' cells' FG' F' N' Y' B' X' T'; k_cells Y'; (try simp only [List.cons_append, List.nil_append] at N'); (try dsimp only); (try k_lift B'); (try k_fold)))
  obtain ⟨hla, hlb⟩ := hpre
  rename Fr s.heap _ _ _ => lF
  replace hla := hla.at fun o e => lF.keep _ o e
  replace hlb := Or.imp (fun z => Heap.IsList.at z fun o e => lF.keep _ o e) (fun z => Heap.IsTuple.at z fun o e => lF.keep _ o e) hlb
  k_steps
  unfold HoldR
  with_reducible (with_reducible show wpAny _ _ (call (Value.type _) [Value.ref _, Value.ref _]) (fun xv s₁ => wpAny _ _ (pyIter xv) (CompAt _ _ _ _ _ _ _ _ _) _ _) _ _); k_dflt ((rename Fr _ _ _ _ => lF'); (with_unfolding_all refine' zdot_ll lF' ?a1 ?a2 ?a3 ?a4 ?a5 ?a6 ?a8 ?a9 ?b1 ?b2 ?b3 ?b4 ?b5 ?b6 ?_); (case a1 => is_list); (case a2 => assumption); (case a3 => assumption); (case a4 => assumption); (case a5 => assumption); (case a6 => assumption); (case a8 => assumption); (case a9 => with_unfolding_all rfl); (case b1 => rfl); (case b2 => rfl); (case b3 => decide); (case b4 => rfl); (case b5 => decide); (case b6 => decide); clear lF'; intro D' h' tk' vs' F' N' i'; (try k_fold))
  k_steps
  rename Fr s.heap _ _ _ => lF2
  exact hret _ _ _ lF2.keep ⟨_, rfl⟩
end Mine
end
section -- LawU
open PySem PySem.W PySem.Calls PyProof.Rows PyProof.Rows.LCg
namespace Mine
theorem ne_all {l : List (Addr × Obj)} {a b : Nat} {o : Obj} (h : ∀ p ∈ l, p.1 ≠ b) (m : (a, o) ∈ l) : a ≠ b := h _ m
section
variable {w : World} {mean : ExcName → Option Value} {mg mb : Str → Option Value} {dp un : Nat} {gd : Option (List Code)} {cn : Str} {cs : Scope} {a : Addr} {ccd : Value} {cl : List (Str × Addr)} {outer : List Env} {A₀ : Around} {base h₀ : Heap} {L : Addr} {m : Str → Option Value} {s : Shared} {Q E : Value → Shared → Prop} {news : List (Addr × Obj)}
theorem draw_use {pl l0 : Addr} {vs : List Value} {ns : List Int} {k0 : Nat} {i : Int} {ti tm : Tok} {many : Int} {rest : List (Addr × Obj)} (B : Below A₀ base outer h₀) (F : Fr h₀ L s.heap m) (N : PyProof.Rows.News h₀ L s.heap ((pl, listOf #[.ref l0, .int i ti] k0) :: (l0, lst vs) :: rest)) (X : (hd.heap_39 w.params).In h₀) (T : Top hd.view_39 (looseW hd.view_39 []) mean mg mb h₀) (hk : cs.kind = .function)
    (hd : dp + 4 < recursionLimit) (hu : un + 8 * 4 < cLine) (hm : 0 < many) (hi : IntsAre vs ns) (h0 : 0 ≤ i) (hi2 : i < 1000) (hap : @Ne Nat l0 pl) (hrest : ∀ p ∈ rest, p.1 ≠ pl) (hsz : vs.length ≤ 4)
    (ret : ∀ x t t' k1 h' tk', Fr h₀ L h' m → PyProof.Rows.News h₀ L h' ((pl, listOf #[.ref l0, .int (i + 1) t'] k1) :: (l0, lst vs) :: rest) → 0 ≤ x → x < many → Q (.int x t) { s with heap := h', toks := tk' }) :
    wpAny (model PySem.Challenge.rw_sy0001_01.row.prog w) (ktrTop dp un gd cn cs L a ccd cl outer) (call (.ref 110) [.ref pl, .int many tm]) Q E s :=
  (draw_c w mean mg mb pl l0 vs ns k0 i ti tm many hm hi h0 hi2 hap rest hrest (by rw [List.size_toArray]; omega)) dp un gd cn cs a ccd cl outer A₀ base h₀ L m s Q E B F X N T hk hd hu fun v news' h' tk' F' N' hp => by
    obtain ⟨x, t, t', k1, rfl, a1, a2, rfl⟩ := hp
    exact ret x t t' k1 h' tk' F' N' a1 a2
theorem draw_use1 {pl l0 : Addr} {vs : List Value} {ns : List Int} {k0 : Nat} {i : Int} {ti tm : Tok} {many : Int} {p1 : Addr × Obj} {rest : List (Addr × Obj)} (B : Below A₀ base outer h₀) (F : Fr h₀ L s.heap m) (N : PyProof.Rows.News h₀ L s.heap (p1 :: (pl, listOf #[.ref l0, .int i ti] k0) :: (l0, lst vs) :: rest)) (X : (hd.heap_39 w.params).In h₀) (T : Top hd.view_39 (looseW hd.view_39 []) mean mg mb h₀) (hk : cs.kind = .function)
    (hd : dp + 4 < recursionLimit) (hu : un + 8 * 4 < cLine) (hm : 0 < many) (hi : IntsAre vs ns) (h0 : 0 ≤ i) (hi2 : i < 1000) (hap : @Ne Nat l0 pl) (hrest : ∀ p ∈ p1 :: rest, p.1 ≠ pl) (hsz : vs.length ≤ 4)
    (ret : ∀ x t t' k1 h' tk', Fr h₀ L h' m → PyProof.Rows.News h₀ L h' ((pl, listOf #[.ref l0, .int (i + 1) t'] k1) :: (l0, lst vs) :: p1 :: rest) → 0 ≤ x → x < many → Q (.int x t) { s with heap := h', toks := tk' }) :
    wpAny (model PySem.Challenge.rw_sy0001_01.row.prog w) (ktrTop dp un gd cn cs L a ccd cl outer) (call (.ref 110) [.ref pl, .int many tm]) Q E s :=
  draw_use B F (fun p hp => N p (by
    rcases List.mem_cons.mp hp with rfl | hp
    · exact .tail _ (.head _)
    rcases List.mem_cons.mp hp with rfl | hp
    · exact .tail _ (.tail _ (.head _))
    rcases List.mem_cons.mp hp with rfl | hp
    · exact .head _
    · exact .tail _ (.tail _ (.tail _ hp)))) X T hk hd hu hm hi h0 hi2 hap hrest hsz ret
theorem draw_use2 {pl l0 : Addr} {vs : List Value} {ns : List Int} {k0 : Nat} {i : Int} {ti tm : Tok} {many : Int} {p1 p2 : Addr × Obj} {rest : List (Addr × Obj)} (B : Below A₀ base outer h₀) (F : Fr h₀ L s.heap m) (N : PyProof.Rows.News h₀ L s.heap (p1 :: p2 :: (pl, listOf #[.ref l0, .int i ti] k0) :: (l0, lst vs) :: rest)) (X : (hd.heap_39 w.params).In h₀) (T : Top hd.view_39 (looseW hd.view_39 []) mean mg mb h₀) (hk : cs.kind = .function)
    (hd : dp + 4 < recursionLimit) (hu : un + 8 * 4 < cLine) (hm : 0 < many) (hi : IntsAre vs ns) (h0 : 0 ≤ i) (hi2 : i < 1000) (hap : @Ne Nat l0 pl) (hrest : ∀ p ∈ p1 :: p2 :: rest, p.1 ≠ pl) (hsz : vs.length ≤ 4)
    (ret : ∀ x t t' k1 h' tk', Fr h₀ L h' m → PyProof.Rows.News h₀ L h' ((pl, listOf #[.ref l0, .int (i + 1) t'] k1) :: (l0, lst vs) :: p1 :: p2 :: rest) → 0 ≤ x → x < many → Q (.int x t) { s with heap := h', toks := tk' }) :
    wpAny (model PySem.Challenge.rw_sy0001_01.row.prog w) (ktrTop dp un gd cn cs L a ccd cl outer) (call (.ref 110) [.ref pl, .int many tm]) Q E s :=
  draw_use B F (fun p hp => N p (by
    rcases List.mem_cons.mp hp with rfl | hp
    · exact .tail _ (.tail _ (.head _))
    rcases List.mem_cons.mp hp with rfl | hp
    · exact .tail _ (.tail _ (.tail _ (.head _)))
    rcases List.mem_cons.mp hp with rfl | hp
    · exact .head _
    rcases List.mem_cons.mp hp with rfl | hp
    · exact .tail _ (.head _)
    · exact .tail _ (.tail _ (.tail _ (.tail _ hp))))) X T hk hd hu hm hi h0 hi2 hap hrest hsz ret

theorem num_lt {x y : Int} (hx : 0 ≤ x) (hx2 : x < 60) (hy : 0 ≤ y) (hy2 : y < 2) : 1 ≤ (1 + x) * (1 + x) + (1 + y) ∧ (1 + x) * (1 + x) + (1 + y) < 2 ^ 22 := by
  have h1 : 1 * 1 ≤ (1 + x) * (1 + x) := Int.mul_le_mul (by omega) (by omega) (by decide) (by omega)
  have h2 : (1 + x) * (1 + x) ≤ 60 * 60 := Int.mul_le_mul (by omega) (by omega) (by omega) (by decide)
  omega
theorem okN_of {x y : Int} (hx : 0 ≤ x) (hx2 : x < 60) (hy : 0 ≤ y) (hy2 : y < 2) : okN ((1 + x) * (1 + x) + (1 + y)) = true := by
  have h := all_ok
  unfold all_okB at h
  rw [List.all_eq_true] at h
  have := h x.toNat (List.mem_range.mpr (by omega))
  rw [Bool.and_eq_true] at this
  have e : ((x.toNat : Nat) : Int) = x := by omega
  rw [e] at this
  have e2 : (1 + x) * (1 + x) = (x + 1) * (x + 1) := by rw [Int.add_comm]
  rw [e2]
  rcases (by omega : y = 0 ∨ y = 1) with rfl | rfl
  · exact this.1
  · exact this.2
theorem div_use {n : Int} {tn : Tok} (B : Below A₀ base outer h₀) (F : Fr h₀ L s.heap m) (N : PyProof.Rows.News h₀ L s.heap news) (X : (hd.heap_39 w.params).In h₀) (T : Top hd.view_39 (looseW hd.view_39 []) mean mg mb h₀) (hk : cs.kind = .function)
    (hd : dp + 12 < recursionLimit) (hu : un + 8 * 12 < cLine) (hn : 1 ≤ n) (hn2 : n < 2 ^ 22) (hok : okN n = true)
    (ret : ∀ D vs k ds h' tk', Fr h₀ L h' m → PyProof.Rows.News h₀ L h' ((D, listOf (List.toArray vs) k) :: news) → (∀ p ∈ news, p.1 ≠ D) → IntsAre vs ds → (∀ x ∈ ds, 0 < x ∧ x < 100000 ∧ Int.fmod n x = 0) → 0 < ds.length → vs.length = ds.length → ds.length < 64 → Q (.ref D) { s with heap := h', toks := tk' }) :
    wpAny (model PySem.Challenge.rw_sy0001_01.row.prog w) (ktrTop dp un gd cn cs L a ccd cl outer) (call (.ref 103) [.int n tn]) Q E s := by
  have hok' := hok
  unfold okN at hok'
  rw [Bool.and_eq_true] at hok'
  have fin := (okL_at _ _ hok'.1).2
  have hall := List.all_eq_true.mp hok'.2
  refine (div_c w mean mg mb n tn hn hn2 hok'.1) dp un gd cn cs a ccd cl outer A₀ base h₀ L m s Q E B F X T hk hd hu trivial fun v h' tk' hk' hp => ?_
  obtain ⟨D, vs, k, ds, rfl, e, n0, hi, hperm⟩ := hp
  obtain ⟨oL, _, _, eL, _⟩ := F.ns
  have hlen : ds.length = (divF (facs n)).length := hperm.length_eq
  refine ret D vs k ds h' tk' (F.keeps hk') ?_ (fun p hp z => ?_) hi (fun x hx => ?_) (by rw [hlen]; exact fin.2.2) hi.length (by rw [hlen]; exact fin.2.1)
  · intro q hq
    rcases List.mem_cons.mp hq with rfl | hq
    · refine ⟨e, fun z => ?_, ?_⟩
      · have z' : D = L := z
        rw [z', eL] at n0; cases n0
      · show h₀.get? D = none
        cases q : h₀.get? D with
        | none => rfl
        | some o => rw [F.keep _ _ q] at n0; cases n0
    · exact (N.grown hk') q hq
  · rw [← z, (N p hp).1] at n0; cases n0
  · have hx' := hperm.mem_iff.mp hx
    exact ⟨(fin.1 x hx').1, (fin.1 x hx').2, of_decide_eq_true (hall x hx')⟩
end
end Mine
end
section -- LawV
open PySem PySem.W PySem.Calls PyProof.Rows PyProof.Rows.LCg
namespace Mine
theorem ints_uncons {vs : List Value} {n : Int} {ns : List Int} (h : IntsAre vs (n :: ns)) : ∃ t r, vs = .int n t :: r ∧ IntsAre r ns := by
  cases h with
  | cons _ t h => exact ⟨t, _, rfl, h⟩
theorem news_cons {h₀ h : Heap} {L : Addr} {p : Addr × Obj} {l : List (Addr × Obj)} (e : h.get? p.1 = some p.2 ∧ p.1 ≠ L ∧ h₀.get? p.1 = none) (N : PyProof.Rows.News h₀ L h l) : PyProof.Rows.News h₀ L h (p :: l) := fun q hq => by
  rcases List.mem_cons.mp hq with rfl | hq
  · exact e
  · exact N q hq
theorem rows_eq (n : Nat) (m x : Int) : [m] ++ (List.replicate n [x]).flatten = m :: List.replicate n x := by
  simp
theorem rowsX_bd {n : Nat} {m : Int} (h : -2 ^ 64 < m ∧ m < 2 ^ 64) : ∀ x ∈ rowsX n m, -2 ^ 64 < x ∧ x < 2 ^ 64 := by
  intro x hx
  rcases List.mem_cons.mp hx with rfl | hx
  · exact h
  · rw [(List.mem_replicate.mp hx).2]; decide
theorem rowsY_bd {n : Nat} {r : Int} (h : -2 ^ 64 < r ∧ r < 2 ^ 64) : ∀ x ∈ rowsY n r, -2 ^ 64 < x ∧ x < 2 ^ 64 := by
  intro x hx
  rcases List.mem_cons.mp hx with rfl | hx
  · exact h
  · rw [(List.mem_replicate.mp hx).2]; decide
/-- what the law reads of lll's answer, in numbers -/
structure Told (n : Nat) (m r a b c d : Int) : Prop where
  det : a * d - b * c = 1 ∨ a * d - b * c = -1
  s00 : dot ((a * m + b * r) :: List.replicate n b) ((a * m + b * r) :: List.replicate n b) = m
  s01 : dot ((a * m + b * r) :: List.replicate n b) ((c * m + d * r) :: List.replicate n d) = 0
  s11 : dot ((c * m + d * r) :: List.replicate n d) ((c * m + d * r) :: List.replicate n d) = n * m
  ba : ∀ x ∈ [a, b], -2 ^ 64 < x ∧ x < 2 ^ 64
  bc : ∀ x ∈ [c, d], -2 ^ 64 < x ∧ x < 2 ^ 64
  b0 : ∀ x ∈ (a * m + b * r) :: List.replicate n b, -2 ^ 64 < x ∧ x < 2 ^ 64
  b1 : ∀ x ∈ (c * m + d * r) :: List.replicate n d, -2 ^ 64 < x ∧ x < 2 ^ 64
  pos : 0 < m
theorem Told.bd {n : Nat} {m r a b c d : Int} (t : Told n m r a b c d) : (-2 ^ 64 < a ∧ a < 2 ^ 64) ∧ (-2 ^ 64 < b ∧ b < 2 ^ 64) ∧ (-2 ^ 64 < c ∧ c < 2 ^ 64) ∧ (-2 ^ 64 < d ∧ d < 2 ^ 64) :=
  ⟨t.ba a (.head _), t.ba b (.tail _ (.head _)), t.bc c (.head _), t.bc d (.tail _ (.head _))⟩
theorem m_le {N m : Int} (hN : 0 < N) (hm : 0 < m) (h : Int.fmod N m = 0) : ∃ q, m * q = N ∧ m ≤ N := by
  have e := Int.mul_fdiv_add_fmod N m
  rw [h, Int.add_zero] at e
  refine ⟨Int.fdiv N m, e, ?_⟩
  generalize Int.fdiv N m = q at e
  have hq : 0 < q := by
    rcases Int.lt_trichotomy 0 q with h0 | h0 | h0
    · exact h0
    · rw [← h0, Int.mul_zero] at e; omega
    · have := Int.mul_neg_of_pos_of_neg hm h0; omega
  have := Int.mul_le_mul_of_nonneg_left (show 1 ≤ q by omega) (show 0 ≤ m by omega)
  omega
theorem sq_le {r K : Int} (h : 0 ≤ r) (h2 : r ≤ K) : r * r ≤ K * K := Int.mul_le_mul h2 h2 h (by omega)
theorem told_of {n : Nat} {m r s1 l : Int} {b0 b1 a0 a1 : List Int} (hn : 0 < n) (hn2 : n ≤ 2) (hm : 0 < m) (hr : 0 ≤ r) (hr2 : r ≤ 60) (hdiv : Int.fmod (r * r + n) m = 0)
    (inv : LInv (rowsX n m) (rowsY n r) (m * m + (r * r + n)) (dot (rowsX n m) (rowsX n m) * dot (rowsY n r) (rowsY n r) - dot (rowsY n r) (rowsX n m) * dot (rowsY n r) (rowsX n m)) b0 b1 a0 a1 s1 l)
    (red : LRed s1 (dot (rowsX n m) (rowsX n m) * dot (rowsY n r) (rowsY n r) - dot (rowsY n r) (rowsX n m) * dot (rowsY n r) (rowsX n m)) l) :
    ∃ a b c d, a0 = [a, b] ∧ a1 = [c, d] ∧ b0 = (a * m + b * r) :: List.replicate n b ∧ b1 = (c * m + d * r) :: List.replicate n d ∧ Told n m r a b c d := by
  have h60 := sq_le hr hr2
  have hrr := sq_nonneg r
  obtain ⟨q, hq, hle⟩ := m_le (show 0 < r * r + n by omega) hm hdiv
  have hmm := sq_le (show 0 ≤ m by omega) (show m ≤ 3602 by omega)
  have hM : m * m + (r * r + n) < 2 ^ 28 := by omega
  have e := law_end hn hn2 hm hq inv red.1 red.2.1 red.2.2
  have hA := law_hA (n := n) (m := m) (r := r) (M := m * m + (r * r + n)) hn hm hr (by omega) hM
  obtain ⟨a, b, rfl⟩ := LInv.two inv.la0
  obtain ⟨c, d, rfl⟩ := LInv.two inv.la1
  have e0 := inv.lin0
  have e1 := inv.lin1
  have q0 := hA [a, b] rfl (by rw [← e0]; exact inv.m0)
  have q1 := hA [c, d] rfl (by rw [← e1]; exact inv.m1)
  have p0 := inv.b_bound
  have p1 : ∀ x ∈ b1, -(m * m + (r * r + n)) ≤ x ∧ x ≤ (m * m + (r * r + n)) := fun x hx => abs_of_sq (Int.le_trans (mem_sq_le b1 x hx) inv.m1)
  rw [lin_rows] at e0 e1
  refine ⟨a, b, c, d, rfl, rfl, e0, e1, ?_, ?_, ?_, ?_, q0, q1, ?_, ?_, ?_⟩
  · have := inv.det1
    simp only [det, List.getD_cons_zero, List.getD_cons_succ] at this
    exact this
  · rw [← e0]; exact e.1
  · rw [← e0, ← e1]; exact e.2.1
  · rw [← e1]; exact e.2.2
  · rw [← e0]; intro x hx; have := p0 x hx; omega
  · rw [← e1]; intro x hx; have := p1 x hx; omega
  · exact hm
section
variable {w : World} {mean : ExcName → Option Value} {mg mb : Str → Option Value} {dp un : Nat} {gd : Option (List Code)} {cn : Str} {cs : Scope} {a : Addr} {ccd : Value} {cl : List (Str × Addr)} {outer : List Env} {A₀ : Around} {base h₀ : Heap} {L : Addr} {m : Str → Option Value} {s : Shared} {Q E : Value → Shared → Prop} {news : List (Addr × Obj)}
theorem lll_use {rl r0 r1 : Addr} {v0 v1 : List Value} {n : Nat} {mm r : Int} {t1 t2 : Tok} (B : Below A₀ base outer h₀) (F : Fr h₀ L s.heap m) (N : PyProof.Rows.News h₀ L s.heap news) (X : (hd.heap_39 w.params).In h₀) (T : Top hd.view_39 (looseW hd.view_39 []) mean mg mb h₀) (hk : cs.kind = .function)
    (hd : dp + 12 < recursionLimit) (hu : un + 8 * 12 < cLine) (hl : s.heap.IsList rl #[.ref r0, .ref r1]) (h0 : s.heap.IsList r0 v0.toArray) (h1 : s.heap.IsList r1 v1.toArray) (hi : IntsAre v0 (rowsX n mm)) (hj : IntsAre v1 (rowsY n r))
    (hn : 0 < n) (hn2 : n ≤ 2) (hm : 0 < mm) (hr : 0 ≤ r) (hr2 : r ≤ 60) (hdiv : Int.fmod (r * r + n) mm = 0)
    (ret : ∀ T fa ca f0 f1 c0 c1 w0 w1 p0 p1 p2 p3 t0 t1 t2 t3 nf nc n0 n1 n2 n3 a b c d h' tk', Fr h₀ L h' m →
      PyProof.Rows.News h₀ L h' ((T, tupOf [.ref fa, .ref ca]) :: (fa, listOf #[.ref f0, .ref f1] nf) :: (ca, listOf #[.ref c0, .ref c1] nc) :: (f0, listOf (.int (a * mm + b * r) p0 :: .int b p1 :: w0).toArray n0) :: (f1, listOf (.int (c * mm + d * r) p2 :: .int d p3 :: w1).toArray n1) :: (c0, listOf #[.int a t0, .int b t1] n2) :: (c1, listOf #[.int c t2, .int d t3] n3) :: news) →
      IntsAre (.int (a * mm + b * r) p0 :: .int b p1 :: w0) ((a * mm + b * r) :: List.replicate n b) → IntsAre (.int (c * mm + d * r) p2 :: .int d p3 :: w1) ((c * mm + d * r) :: List.replicate n d) → Told n mm r a b c d → Q (.ref T) { s with heap := h', toks := tk' }) :
    wpAny (model PySem.Challenge.rw_sy0001_01.row.prog w) (ktrTop dp un gd cn cs L a ccd cl outer) (call (.ref 84) [.ref rl, .int 1 t1, .int 1 t2]) Q E s := by
  have h60 := sq_le hr hr2
  have hrr := sq_nonneg r
  obtain ⟨q, hq, hle⟩ := m_le (show 0 < r * r + n by omega) hm hdiv
  have hmm := sq_le (show 0 ≤ mm by omega) (show mm ≤ 3602 by omega)
  have hmm0 := sq_nonneg mm
  have hM : mm * mm + (r * r + n) < 2 ^ 28 := by omega
  have hmp : 0 < mm * mm := Int.mul_pos hm hm
  have hrm : r * mm ≤ 60 * 3602 := Int.mul_le_mul hr2 (by omega) (by omega) (by decide)
  have hrm0 : 0 ≤ r * mm := Int.mul_nonneg hr (by omega)
  have lx : (rowsX n mm).length = n + 1 := by simp [rowsX]
  have ly : (rowsY n r).length = n + 1 := by simp [rowsY]
  have sz : 3 ≤ sizeLine := by decide
  have inv0 := law_inv0 (n := n) (m := mm) (r := r) (M := mm * mm + (r * r + n)) hn hm (by omega) (by omega)
  refine (lll_c w mean mg mb rl r0 r1 v0 v1 (rowsX n mm) (rowsY n r) t1 t2 (mm * mm + (r * r + n)) hi hj (by rw [lx, ly]) (by rw [lx]; exact Nat.le_trans (by omega) sz) (by rw [ly]; exact Nat.le_trans (by omega) sz) (by rw [lx]; omega) (by rw [ly]; omega)
    (rowsX_bd (by omega)) (rowsY_bd (by omega)) (by rw [xx]; exact hmp) (by rw [xx]; omega) (by rw [yx]; omega) (by rw [yx]; omega)
    (by rw [gcdet]; exact Int.mul_pos hmp (by omega)) inv0 hM (law_hA hn hm hr (by omega) hM)) dp un gd cn cs a ccd cl outer A₀ base h₀ L m s Q E B F X T hk hd hu ⟨hl, h0, h1⟩ fun v h' tk' hk' hp => ?_
  obtain ⟨T, fa, ca, f0, f1, c0, c1, w0, w1, u0, u1, b0, b1, a0, a1, nf, nc, n0, n1, n2, n3, s1, l, rfl, eT, efa, eca, ef0, ef1, ec0, ec1, ⟨nT, nfa, nca, nf0, nf1, nc0, nc1⟩, i0, i1, i2, i3, inv, red⟩ := hp
  obtain ⟨a, b, c, d, rfl, rfl, rfl, rfl, told⟩ := told_of hn hn2 hm hr hr2 hdiv inv red
  obtain ⟨t0, r0', rfl, j0⟩ := ints_uncons i2
  obtain ⟨t1, r1', rfl, j1⟩ := ints_uncons j0
  obtain ⟨t2, r2', rfl, j2⟩ := ints_uncons i3
  obtain ⟨t3, r3', rfl, j3⟩ := ints_uncons j2
  cases j1
  cases j3
  obtain ⟨k, rfl⟩ : ∃ k, n = k + 1 := ⟨n - 1, by omega⟩
  obtain ⟨p0, r4, rfl, j4⟩ := ints_uncons i0
  obtain ⟨p1, r5, rfl, j5⟩ := ints_uncons (ns := List.replicate k b) j4
  obtain ⟨p2, r6, rfl, j6⟩ := ints_uncons i1
  obtain ⟨p3, r7, rfl, j7⟩ := ints_uncons (ns := List.replicate k d) j6
  have new : ∀ c o, h'.get? c = some o → s.heap.get? c = none → h'.get? c = some o ∧ c ≠ L ∧ h₀.get? c = none := fun c o e e0 => by
    obtain ⟨oL, _, _, eL, _⟩ := F.ns
    refine ⟨e, fun z => ?_, ?_⟩
    · rw [z, eL] at e0; cases e0
    · cases q : h₀.get? c with
      | none => rfl
      | some o => rw [F.keep _ _ q] at e0; cases e0
  refine ret T fa ca f0 f1 c0 c1 r5 r7 p0 p1 p2 p3 t0 t1 t2 t3 nf nc n0 n1 n2 n3 a b c d h' tk' (F.keeps hk') ?_ i0 i1 told
  exact news_cons (new _ _ eT nT) (news_cons (new _ _ efa nfa) (news_cons (new _ _ eca nca) (news_cons (new _ _ ef0 nf0) (news_cons (new _ _ ef1 nf1) (news_cons (new _ _ ec0 nc0) (news_cons (new _ _ ec1 nc1) (N.grown hk')))))))
end
theorem cut_led {h₀ h : Heap} {L : Addr} {t1 t2 t3 t4 t5 t6 t7 a1 a2 a3 a4 a5 a6 a7 a8 a9 d1 c4 c3 c2 c1 : Addr × Obj} (N : PyProof.Rows.News h₀ L h [t1, t2, t3, t4, t5, t6, t7, a1, a2, a3, a4, a5, a6, a7, a8, a9, d1, c4, c3, c2, c1]) :
    PyProof.Rows.News h₀ L h [t1, t2, t3, t4, t5, t6, t7, a1, a2, a6, c4, c3, c2, c1] := fun p hp =>
  N p ((by repeat (first | exact .slnil | apply List.Sublist.cons_cons | apply List.Sublist.cons) : List.Sublist [t1, t2, t3, t4, t5, t6, t7, a1, a2, a6, c4, c3, c2, c1] [t1, t2, t3, t4, t5, t6, t7, a1, a2, a3, a4, a5, a6, a7, a8, a9, d1, c4, c3, c2, c1]).subset hp)
theorem cut_draw {h₀ h : Heap} {L : Addr} {pl l0 d1 tu sl c4 c3 c2 c1 : Addr × Obj} (N : PyProof.Rows.News h₀ L h [pl, l0, d1, tu, sl, c4, c3, c2, c1]) : PyProof.Rows.News h₀ L h [d1, c4, c3, c2, c1] := fun p hp =>
  N p ((by repeat (first | exact .slnil | apply List.Sublist.cons_cons | apply List.Sublist.cons) : List.Sublist [d1, c4, c3, c2, c1] [pl, l0, d1, tu, sl, c4, c3, c2, c1]).subset hp)
end Mine
end
section -- Nest
set_option maxRecDepth 100000
open PySem PySem.W PySem.Calls PyProof.Rows PyProof.V PySem.Spec PyProof.Rows.LCg
namespace Mine
section
variable {prog : Program} {w : World} {A : Around} {E : Value → Shared → Prop} {s : Shared}
/-- zip of two lists of one length in a block whose one name is the pair; the element may make objects -/
theorem zip_one_at {env : Env} {elt : PySem.Expr} {a : Str} {pa : Pos} {scope : Scope} {cl : List (Str × Addr)} {Q : Value → Shared → Prop} {l1 l2 : Addr} {xs ys : Array Value} (hl1 : s.heap.IsList l1 xs) (hl2 : s.heap.IsList l2 ys) (hlen : ys.size = xs.size) (hsz : xs.size ≤ sizeLine) (hh : A.handled = none)
    (hxa : scope.names.lookup a = some .local) (hkind : scope.kind = .function) (Y : Nat → Value → Prop)
    (turn : ∀ (i : Nat) x y (T C : Addr) h tk m₂ (E' : Value → Shared → Prop), i < xs.size → xs[i]? = some x → ys[i]? = some y → h.IsTuple T #[x, y] → h.Ns C m₂ → m₂ a = some (.ref T) → (∀ c o, s.heap.get? c = some o → h.get? c = some o) →
      wpAny (model prog w) A (eval elt (compEnvC scope cl C env)) (fun r s₄ => ∃ h' tk', s₄ = { s with heap := h', toks := tk' } ∧ (∀ b o, h.get? b = some o → h'.get? b = some o) ∧ Y i r) E' { s with heap := h, toks := tk })
    (done : ∀ vs D h tk, vs.length = xs.size → (∀ (j : Nat) y, vs[j]? = some y → Y j y) → h.get? D = some (lst vs) → s.heap.objs.size ≤ D → (∀ c o, s.heap.get? c = some o → h.get? c = some o) → Q (.ref D) { s with heap := h, toks := tk }) :
    wpAny (model prog w) A (call (.type "zip") [.ref l1, .ref l2]) (fun xv s₁ => wpAny (model prog w) A (pyIter xv) (CompAt prog w A env elt (.Name a pa) scope cl Q) E s₁) E s := by
  have h1 : l1 < s.heap.objs.size := by obtain ⟨o, e, _⟩ := hl1; exact Heap.lt_size e
  have h2 : l2 < s.heap.objs.size := by obtain ⟨o, e, _⟩ := hl2; exact Heap.lt_size e
  refine call_zip_2 hl1 hl2 fun h' hZ hTI hTO i1 i2 hsz' hk => ?_
  have D1 := Draws.list (prog := prog) (w := w) (A := A.in1) hh s.heap.objs.size l1 (Nat.ne_of_lt h1) xs
  have D2 := Draws.list (prog := prog) (w := w) (A := A.in1) hh (s.heap.objs.size + 1) l2 (Nat.ne_of_lt (Nat.lt_succ_of_lt h2)) ys
  rw [hlen] at D2
  have hzg : ZipG h' (s.heap.objs.size + 4) (s.heap.objs.size + 2) (s.heap.objs.size + 3) := ⟨_, _, .inl rfl, hZ⟩
  refine zip_self (s := { s with heap := h' }) hzg ?_
  have X := zap h1 h2
  have lt5 : ∀ k, k < 5 → s.heap.objs.size + k < h'.objs.size := fun k q => by rw [hsz']; exact Nat.add_lt_add_left q _
  have up : ∀ (h : Heap), Ext ((h'.objs.size + 1) :: h'.objs.size :: [s.heap.objs.size + 4, s.heap.objs.size + 3, s.heap.objs.size, s.heap.objs.size + 1]) h' h → ∀ c o, s.heap.get? c = some o → h.get? c = some o := fun h hx c o e => by
    have hc := Heap.lt_size e
    refine hx c o (fun hm => ?_) (hk c o e)
    have hne : ∀ k, c ≠ s.heap.objs.size + k := fun k q => absurd hc (q ▸ Nat.not_lt.mpr (Nat.le_add_right _ k))
    rw [hsz'] at hm
    simp only [List.mem_cons, List.not_mem_nil, or_false] at hm
    rcases hm with q | q | q | q | q | q
    · exact hne 6 q
    · exact hne 5 q
    · exact hne 4 q
    · exact hne 3 q
    · exact hne 0 q
    · exact hne 1 q
  refine ⟨_, _, _, _, _, _, _, fun i y _ => Y i y, rfl, zip_turns D1 D2 X, hsz, ?_, ⟨hzg, hTI, ⟨_, _, hTO⟩, ⟨i1, hl1.at fun o e => hk _ o e⟩, ⟨i2, hl2.at fun o e => hk _ o e⟩⟩, hh, ?_, fun _ _ _ _ y _ => y, ?_, ?_⟩
  · intro c hc
    rcases List.mem_cons.mp hc with rfl | hc
    · exact lt5 4 (by decide)
    rcases List.mem_cons.mp hc with rfl | hc
    · exact lt5 2 (by decide)
    rcases List.mem_cons.mp hc with rfl | hc
    · exact lt5 3 (by decide)
    rcases List.mem_append.mp hc with hc | hc
    · rcases List.mem_cons.mp hc with rfl | hc
      · exact lt5 0 (by decide)
      · exact Nat.lt_trans ((List.mem_singleton.mp hc) ▸ h1) (lt5 0 (by decide))
    · rcases List.mem_cons.mp hc with rfl | hc
      · exact lt5 1 (by decide)
      · exact Nat.lt_trans ((List.mem_singleton.mp hc) ▸ h2) (lt5 0 (by decide))
  · intro s₃ Q' E' st q
    exact zip_self st.1 q
  · intro i v h tk m₂ E' hi hPv hm hx
    obtain ⟨T, x, y, rfl, p1, p2, hT⟩ := hPv
    refine wpAny_assign_Name (wpAny_storeName_local (env := compEnvC scope cl (h'.objs.size + 1) env) (lookup_relabel_local hxa) hm (fun h₄ hn₄ hs₄ => ?_) (by simp [compEnvC, relabel, hkind]))
    have hTC : T ≠ h'.objs.size + 1 := fun q => by
      obtain ⟨o, e, _, k, ed⟩ := hT
      obtain ⟨o', es, ep, e', ed', _⟩ := hm
      have e2 : h.get? (h'.objs.size + 1) = some o := q ▸ e
      have e3 : some o' = some o := e'.symm.trans e2
      cases e3
      rw [ed] at ed'
      cases ed'
    have hT₄ : h₄.IsTuple T #[x, y] := hT.extBut hs₄.extBut hTC
    have ue : Ext ((h'.objs.size + 1) :: h'.objs.size :: [s.heap.objs.size + 4, s.heap.objs.size + 3, s.heap.objs.size, s.heap.objs.size + 1]) h h₄ := Ext.of_same hs₄ (List.mem_cons_self ..)
    refine wpAny_mono (turn i x y T _ h₄ _ _ E' hi p1 p2 hT₄ hn₄ (by simp) (up h₄ (hx.trans ue))) (fun r s₄ h₅ => ?_) fun _ _ e => e
    obtain ⟨h₆, tk', rfl, hk', hY⟩ := h₅
    exact ⟨h₆, tk', rfl, (Ext.of_same hs₄ (List.mem_cons_self ..)).trans (Ext.of_keeps hk'), ⟨_, hn₄.keeps hk'⟩, hY⟩
  · intro vs h tk hlen hy hD hx
    exact done vs _ h tk hlen hy hD (by show _ ≤ h'.objs.size; rw [hsz']; exact Nat.le_add_right _ 5) (up h hx)

/-- a list, the source of a block whose one name is a cell -/
theorem listC_at {env : Env} {elt : PySem.Expr} {x : Str} {px : Pos} {scope : Scope} {cl : List (Str × Addr)} {Q : Value → Shared → Prop} {l : Addr} {items : Array Value}
    (hl : s.heap.IsList l items) (hsz : items.size ≤ sizeLine) (hh : A.handled = none)
    (Y : Nat → Value → Heap → Prop)
    (hY : ∀ i y (h h' : Heap), Y i y h → (∀ b o, s.heap.objs.size + 4 ≤ b → h.get? b = some o → h'.get? b = some o) → Y i y h')
    (turn : ∀ (i : Nat) v C c h tk (E' : Value → Shared → Prop), items[i]? = some v → h.IsCell c (some v) → s.heap.objs.size + 4 ≤ h.objs.size → (∀ c o, s.heap.get? c = some o → h.get? c = some o) →
      wpAny (model prog w) A (eval elt (compEnvC scope ((x, c) :: cl) C env))
        (fun y s₄ => ∃ h' tk', s₄ = { s with heap := h', toks := tk' } ∧ (∀ b o, h.get? b = some o → h'.get? b = some o) ∧ Y i y h') E' { s with heap := h, toks := tk })
    (done : ∀ ys D h tk, ys.length = items.size → (∀ (j : Nat) y, ys[j]? = some y → Y j y h) → h.get? D = some (lst ys) → s.heap.objs.size ≤ D → (∀ c o, s.heap.get? c = some o → h.get? c = some o) → Q (.ref D) { s with heap := h, toks := tk }) :
    wpAny (model prog w) A (pyIter (.ref l)) (CompAtC prog w A env elt x px scope cl Q) E s := by
  have hlt : l < s.heap.objs.size := by obtain ⟨o, e, _⟩ := hl; exact Heap.lt_size e
  refine wpAny_pyIter_list hl ?_
  generalize hh2 : s.heap.push { cls := .type "list_iterator", data := .fields #[.ref l, .int 0 0] } = Hp
  have z2 : Hp.objs.size = s.heap.objs.size + 1 := by rw [← hh2, Heap.size_push]
  have hk : ∀ c o, s.heap.get? c = some o → Hp.get? c = some o := fun c o e => by rw [← hh2]; exact Heap.get?_push_of_some _ e
  have hI : Hp.IsListIter s.heap.objs.size l 0 := by
    rw [← hh2]
    exact ⟨_, Heap.get?_push_size _ rfl, rfl, rfl⟩
  have out : ∀ b, s.heap.objs.size + 4 ≤ b ∨ b < s.heap.objs.size → b ∉ (Hp.objs.size + 2) :: (Hp.objs.size + 1) :: Hp.objs.size :: [s.heap.objs.size] := fun b hb hm => by
    rw [z2] at hm
    simp only [List.mem_cons, List.not_mem_nil, or_false] at hm
    have ltS : ∀ k j : Nat, k < j → ¬ s.heap.objs.size + j ≤ s.heap.objs.size + k := fun k j q => Nat.not_le.mpr (Nat.add_lt_add_left q _)
    rcases hb with hb | hb
    · rcases hm with q | q | q | q
      · exact ltS 3 4 (by decide) (q ▸ hb)
      · exact ltS 2 4 (by decide) (q ▸ hb)
      · exact ltS 1 4 (by decide) (q ▸ hb)
      · exact ltS 0 4 (by decide) (q ▸ hb)
    · rcases hm with q | q | q | q
      · exact absurd hb (q ▸ Nat.not_lt.mpr (Nat.le_add_right _ 3))
      · exact absurd hb (q ▸ Nat.not_lt.mpr (Nat.le_add_right _ 2))
      · exact absurd hb (q ▸ Nat.not_lt.mpr (Nat.le_add_right _ 1))
      · exact absurd hb (q ▸ Nat.lt_irrefl _)
  have up : ∀ (h : Heap), Ext ((Hp.objs.size + 2) :: (Hp.objs.size + 1) :: Hp.objs.size :: [s.heap.objs.size]) Hp h → ∀ c o, s.heap.get? c = some o → h.get? c = some o :=
    fun h hx c o e => hx c o (out c (.inr (Heap.lt_size e))) (hk c o e)
  refine ⟨s.heap.objs.size, [s.heap.objs.size, l], [s.heap.objs.size], items.size, _, _, _, Y, rfl,
    KTurns.ofWalks (Walks.list hh s.heap.objs.size l (Nat.ne_of_lt hlt) items) fun i v s Q E st q => by unfold letOwnedTupleGo; exact wpAny_pure q, hsz, ?_, ⟨hI, hl.at fun o e => hk _ o e⟩, ?_, ?_, ?_, fun _ _ _ _ hp _ => hp, ?_⟩
  · intro c hc
    show c < Hp.objs.size
    rw [z2]
    rcases List.mem_cons.mp hc with rfl | hc
    · exact Nat.lt_succ_self _
    · exact Nat.lt_succ_of_lt ((List.mem_singleton.mp hc) ▸ hlt)
  · intro s₃ Q' E' st q
    exact (Walks.list (prog := prog) (w := w) hh s.heap.objs.size l (Nat.ne_of_lt hlt) items).self 0 s₃ Q' E' st q
  · intro i y h h' hy hx
    exact hY i y h h' hy fun b o hb e => hx b o (out b (.inl hb)) e
  · rintro i v h tk E' hi hv hc hsz' hx
    have hsz'' : s.heap.objs.size + 4 ≤ h.objs.size := by
      have q : Hp.objs.size + 2 < h.objs.size := hsz'
      rw [z2] at q
      exact q
    exact turn i v _ _ h tk E' hv hc hsz'' (up h hx)
  · intro ys h tk hl hy hD hx
    exact done ys _ h tk hl hy hD (by show _ ≤ Hp.objs.size; rw [z2]; exact Nat.le_add_right _ 1) (up h hx)
end
end Mine
end
section -- Nest2
set_option maxRecDepth 100000
open PySem PySem.W PySem.Calls PyProof.Rows PyProof.V PySem.Spec PyProof.Rows.LCg
namespace Mine
section
variable {prog : Program} {w : World} {A : Around} {E : Value → Shared → Prop} {s : Shared}

/-- rows[k], rows standing in a cell -/
theorem cell_item {env2 : Env} {rows : Str} {p1 p2 p3 : Pos} {kk : Nat} {k : Int} {cm rl : Addr} {vs : List Value} {v : Value} {Q : Value → Shared → Prop}
    (hk2 : env2.scope.kind = .function) (hrows : env2.kindOf rows = some .cell) (hclm : env2.cells.lookup rows = some cm) (hcm : s.heap.IsCell cm (some (.ref rl))) (hl : s.heap.IsList rl vs.toArray)
    (h0 : 0 ≤ k) (hhi : k < 2 ^ 63) (hx : vs[k.toNat]? = some v) (hd : (rows == ("__debug__" : Str)) = false)
    (hs : ∀ u, subscripted (.Constant (.int k) kk p2) false (.ref rl) (.int k u) = operate [.ref rl, .int k u] (getItem (.ref rl) (.int k u)))
    (h : Q v { s with toks := s.toks + 1 }) :
    wpAny (model prog w) A (eval (.Subscript (.Name rows p1) (.Constant (.int k) kk p2) p3) env2) Q E s := by
  refine PyProof.Rows.Subscript_ (wpAny_Name (wpAny_loadName_cell hk2 hrows hclm hcm ?_) hd)
  refine wpAny_Constant_int ?_
  exact item_written (s := { s with toks := s.toks + 1 }) hl h0 hhi hx h (hs _)

/-- [f(change, column) for column in zip(rows[0], rows[1])] at an outer block's cell change -/
theorem inner_dots {K : Frag} {mg mb : Str → Option Value} {p : Program} {loose : List Str} {mean : ExcName → Option Value} {h₀ : Heap} {L : Addr} {m : Str → Option Value} {env2 : Env} {change column rows dotn : Str} {p1 p2 p3 p4 p5 p6 p7 p8 p9 p10 p11 pd pz pos2 : Pos} {k1 k2 : Nat} {scope2 : Scope} {cl2 : List (Str × Addr)} {c cm rl r0 r1 ch : Addr} {v0 v1 : List Value} {xs ys : List Int} {f : Int → Int → Int} {dv : Value} {Q : Value → Shared → Prop} (hh : A.handled = none)
    (F : Fr h₀ L s.heap m) (X : K.In h₀) (T : Top p loose mean mg mb h₀) (ed : nsIn K mainGlobals dotn = some (some dv)) (hkeep : keepIn K dv = true) (hg : env2.globals = mainGlobals)
    (hclos : closureFor scope2 env2 = pure cl2) (hcell : ∀ y ∈ scope2.names, y.2 ≠ .cell) (hkind : scope2.kind = .function) (hnames : ∀ y ∈ scope2.names, y.2 = .local → scope2.names.lookup y.1 = some .local)
    (hxo : scope2.names.lookup column = some .local) (hat : ∀ C, (compEnvC scope2 cl2 C env2).kindOf change = some .cell) (hcl2 : cl2.lookup change = some c) (hc : s.heap.IsCell c (some (.ref ch)))
    (hdk : ∀ C, (compEnvC scope2 cl2 C env2).kindOf dotn = some .globalImplicit) (hdd : (dotn == ("__debug__" : Str)) = false) (hd1 : (column == ("__debug__" : Str)) = false) (hd2 : (change == ("__debug__" : Str)) = false)
    (hk2 : env2.scope.kind = .function) (hrows : env2.kindOf rows = some .cell) (hclm : env2.cells.lookup rows = some cm) (hcm : s.heap.IsCell cm (some (.ref rl))) (hrl : s.heap.IsList rl #[.ref r0, .ref r1])
    (hr0 : s.heap.IsList r0 v0.toArray) (hr1 : s.heap.IsList r1 v1.toArray) (hi : IntsAre v0 xs) (hj : IntsAre v1 ys) (hlen : xs.length = ys.length) (hsz : xs.length ≤ sizeLine) (hd3 : (rows == ("__debug__" : Str)) = false)
    (hs1 : ∀ u, subscripted (.Constant (.int 0) k1 p6) false (.ref rl) (.int 0 u) = operate [.ref rl, .int 0 u] (getItem (.ref rl) (.int 0 u)))
    (hs2 : ∀ u, subscripted (.Constant (.int 1) k2 p9) false (.ref rl) (.int 1 u) = operate [.ref rl, .int 1 u] (getItem (.ref rl) (.int 1 u)))
    (hz : ∀ Q' : Value → Shared → Prop, Q' (.type "zip") s → wpAny (model prog w) A (eval (.Name "zip" pz) env2) Q' E s)
    (hcall : ∀ (T : Addr) (x y : Int) tx ty h tk (E' : Value → Shared → Prop) (Q' : Value → Shared → Prop), Fr h₀ L h m → (∀ c o, s.heap.get? c = some o → h.get? c = some o) → h.IsTuple T #[.int x tx, .int y ty] →
      (∀ t h' tk', (∀ c o, h.get? c = some o → h'.get? c = some o) → Q' (.int (f x y) t) { s with heap := h', toks := tk' }) →
      wpAny (model prog w) A (call dv [.ref ch, .ref T]) Q' E' { s with heap := h, toks := tk })
    (hfs : ∀ x, foldedSetIterable (.Call (.Name "zip" pz) [.Subscript (.Name rows p5) (.Constant (.int 0) k1 p6) p7, .Subscript (.Name rows p8) (.Constant (.int 1) k2 p9) p10] [] p11) env2 x = pure x)
    (done : ∀ D vs h' tk, IntsAre vs (List.zipWith f xs ys) → h'.get? D = some (lst vs) → s.heap.objs.size ≤ D → (∀ c o, s.heap.get? c = some o → h'.get? c = some o) → Q (.ref D) { s with heap := h', toks := tk }) :
    wpAny (model prog w) A (eval (.ListComp (.Call (.Name dotn pd) [.Name change p1, .Name column p2] [] p3) [⟨.Name column p4, .Call (.Name "zip" pz) [.Subscript (.Name rows p5) (.Constant (.int 0) k1 p6) p7, .Subscript (.Name rows p8) (.Constant (.int 1) k2 p9) p10] [] p11, [], 0⟩] scope2 pos2) env2) Q E s := by
  refine comp_eval hclos hcell hkind hnames ?_ hfs
  refine Call_ (hz _ ?_)
  refine PyProof.Rows.callWith_type1 (spliced_more ?_)
  refine cell_item (vs := [.ref r0, .ref r1]) hk2 hrows hclm hcm hrl (by decide) (by decide) rfl hd3 hs1 ?_
  refine spliced_more ?_
  refine cell_item (s := { s with toks := s.toks + 1 }) (vs := [.ref r0, .ref r1]) hk2 hrows hclm hcm hrl (by decide) (by decide) rfl hd3 hs2 ?_
  refine spliced_none ?_
  have e1 : v0.toArray.size = xs.length := by simp [hi.length]
  have e2 : v1.toArray.size = v0.toArray.size := by simp [hi.length, hj.length, hlen]
  refine zip_one_at (s := { s with toks := s.toks + 1 + 1 }) hr0 hr1 e2 (by rw [e1]; exact hsz) hh hxo hkind (fun j y => ∃ n t, (List.zipWith f xs ys)[j]? = some n ∧ y = .int n t) ?_ ?_
  · intro i x y T' C h tk m₂ E' hin hx hy hT hns hcol hk
    have hin1 : i < xs.length := by rw [← hi.length]; simpa using hin
    have hin2 : i < ys.length := hlen ▸ hin1
    obtain ⟨u, hu⟩ := hi.get i xs[i] (by simp [hin1])
    obtain ⟨u', hu'⟩ := hj.get i ys[i] (by simp [hin2])
    have hx' : v0[i]? = some x := by simpa using hx
    have hy' : v1[i]? = some y := by simpa using hy
    rw [hu] at hx'
    rw [hu'] at hy'
    obtain rfl := Option.some.inj hx'
    obtain rfl := Option.some.inj hy'
    have F' : Fr h₀ L h m := F.keeps hk
    refine Call_ (LCgL.ld_global (s := { s with heap := h, toks := tk }) F' X T ed ?_ hg (by exact hkind) (hdk C) hdd)
    refine callWith_K X hkeep (spliced_more ?_)
    refine wpAny_Name (wpAny_loadName_cell (by exact hkind) (hat C) hcl2 (hc.keeps hk) ?_) hd2
    refine spliced_more ?_
    refine ldVarK (m := m₂) hns hcol ?_ (by exact hkind) (lookup_relabel_local hxo) hd1
    refine spliced_none ⟨X.keeps F'.keep, ?_⟩
    refine hcall T' _ _ _ _ h tk _ _ F' hk hT fun t h' tk' hk' => ?_
    exact ⟨h', tk', rfl, hk', _, t, by rw [List.getElem?_zipWith, List.getElem?_eq_getElem hin1, List.getElem?_eq_getElem hin2], rfl⟩
  · intro vs D h tk hl hy hD hge hk
    exact done D vs h tk (ints_of_fn (by rw [hl, e1, List.length_zipWith, ← hlen, Nat.min_self]) hy) hD hge hk

/-- the same for each change of a list of two -/
theorem nest_at {K : Frag} {mg mb : Str → Option Value} {p : Program} {loose : List Str} {mean : ExcName → Option Value} {h₀ : Heap} {m : Str → Option Value} {news : List (Addr × Obj)} {env : Env} {L : Addr} {change column rows dotn : Str} {p1 p2 p3 p4 p5 p6 p7 p8 p9 p10 p11 pd pz pos2 px : Pos} {k1 k2 : Nat} {scope scope2 : Scope} {cl : List (Str × Addr)}
    {cm la rl r0 r1 ch0 ch1 : Addr} {ocm : Obj} {v0 v1 : List Value} {xs ys : List Int} {f0 f1 : Int → Int → Int} {dv : Value} {Q : Value → Shared → Prop} (hh : A.handled = none)
    (F : Fr h₀ L s.heap m) (N : PyProof.Rows.News h₀ L s.heap news) (X : K.In h₀) (T : Top p loose mean mg mb h₀) (hm : (cm, ocm) ∈ news) (hd : ocm.data = .cell (some (.ref rl))) (hla : s.heap.IsList la #[.ref ch0, .ref ch1])
    (hrl : s.heap.IsList rl #[.ref r0, .ref r1]) (hr0 : s.heap.IsList r0 v0.toArray) (hr1 : s.heap.IsList r1 v1.toArray) (hi : IntsAre v0 xs) (hj : IntsAre v1 ys) (hlen : xs.length = ys.length) (hsz : xs.length ≤ sizeLine)
    (ed : nsIn K mainGlobals dotn = some (some dv)) (hkeep : keepIn K dv = true) (ez : nsIn K mainGlobals "zip" = some none) (hv : bootBuiltins "zip" = some (.type "zip")) (hg : env.globals = mainGlobals) (hb : env.builtins = builtinsNs)
    (hclos : ∀ c C, closureFor scope2 (compEnvC scope ((change, c) :: cl) C env) = pure [(change, c)]) (hcell : ∀ y ∈ scope2.names, y.2 ≠ .cell) (hkind : scope2.kind = .function) (hnames : ∀ y ∈ scope2.names, y.2 = .local → scope2.names.lookup y.1 = some .local)
    (hxo : scope2.names.lookup column = some .local) (hat : ∀ c C C', (compEnvC scope2 [(change, c)] C' (compEnvC scope ((change, c) :: cl) C env)).kindOf change = some .cell)
    (hdk : ∀ c C C', (compEnvC scope2 [(change, c)] C' (compEnvC scope ((change, c) :: cl) C env)).kindOf dotn = some .globalImplicit)
    (hk2 : scope.kind = .function) (hrows : ∀ c C, (compEnvC scope ((change, c) :: cl) C env).kindOf rows = some .cell) (hclm : cl.lookup rows = some cm) (hne : (rows == change) = false)
    (hzk : ∀ c C, (compEnvC scope ((change, c) :: cl) C env).kindOf "zip" = some .globalImplicit)
    (hdd : (dotn == ("__debug__" : Str)) = false) (hd1 : (column == ("__debug__" : Str)) = false) (hd2 : (change == ("__debug__" : Str)) = false) (hd3 : (rows == ("__debug__" : Str)) = false)
    (hs1 : ∀ u, subscripted (.Constant (.int 0) k1 p6) false (.ref rl) (.int 0 u) = operate [.ref rl, .int 0 u] (getItem (.ref rl) (.int 0 u)))
    (hs2 : ∀ u, subscripted (.Constant (.int 1) k2 p9) false (.ref rl) (.int 1 u) = operate [.ref rl, .int 1 u] (getItem (.ref rl) (.int 1 u)))
    (hcall0 : ∀ (T : Addr) (x y : Int) tx ty h tk (E' : Value → Shared → Prop) (Q' : Value → Shared → Prop), Fr h₀ L h m → (∀ c o, s.heap.get? c = some o → h.get? c = some o) → h.IsTuple T #[.int x tx, .int y ty] →
      (∀ t h' tk', (∀ c o, h.get? c = some o → h'.get? c = some o) → Q' (.int (f0 x y) t) { s with heap := h', toks := tk' }) →
      wpAny (model prog w) A (call dv [.ref ch0, .ref T]) Q' E' { s with heap := h, toks := tk })
    (hcall1 : ∀ (T : Addr) (x y : Int) tx ty h tk (E' : Value → Shared → Prop) (Q' : Value → Shared → Prop), Fr h₀ L h m → (∀ c o, s.heap.get? c = some o → h.get? c = some o) → h.IsTuple T #[.int x tx, .int y ty] →
      (∀ t h' tk', (∀ c o, h.get? c = some o → h'.get? c = some o) → Q' (.int (f1 x y) t) { s with heap := h', toks := tk' }) →
      wpAny (model prog w) A (call dv [.ref ch1, .ref T]) Q' E' { s with heap := h, toks := tk })
    (done : ∀ D c0 c1 w0 w1 h' tk, Fr h₀ L h' m → PyProof.Rows.News h₀ L h' ((D, lst [.ref c0, .ref c1]) :: (c0, lst w0) :: (c1, lst w1) :: news) → IntsAre w0 (List.zipWith f0 xs ys) → IntsAre w1 (List.zipWith f1 xs ys) → Q (.ref D) { s with heap := h', toks := tk }) :
    wpAny (model prog w) A (pyIter (.ref la))
      (CompAtC prog w A env (.ListComp (.Call (.Name dotn pd) [.Name change p1, .Name column p2] [] p3) [⟨.Name column p4, .Call (.Name "zip" pz) [.Subscript (.Name rows p5) (.Constant (.int 0) k1 p6) p7, .Subscript (.Name rows p8) (.Constant (.int 1) k2 p9) p10] [] p11, [], 0⟩] scope2 pos2) change px scope cl Q) E s := by
  refine listC_at hla (by show 2 ≤ sizeLine; decide) hh (fun i y h => ∃ a ws, y = .ref a ∧ s.heap.objs.size + 4 ≤ a ∧ h.get? a = some (lst ws) ∧ (i = 0 → IntsAre ws (List.zipWith f0 xs ys)) ∧ (i = 1 → IntsAre ws (List.zipWith f1 xs ys))) ?_ ?_ ?_
  · rintro i y h h' ⟨a, ws, rfl, ha, he, z0, z1⟩ hk
    exact ⟨a, ws, rfl, ha, hk a _ ha he, z0, z1⟩
  · intro i v C c h tk E' hv' hc hsz' hk
    have F' : Fr h₀ L h m := F.keeps hk
    have hcm : h.IsCell cm (some (.ref rl)) := ⟨ocm, (N.grown hk).get hm, hd⟩
    have up : ∀ {h' : Heap}, (∀ c o, h.get? c = some o → h'.get? c = some o) → ∀ c o, s.heap.get? c = some o → h'.get? c = some o := fun hk' c o e => hk' c o (hk c o e)
    have hi' : (i = 0 ∧ v = .ref ch0) ∨ (i = 1 ∧ v = .ref ch1) := by
      match i, hv' with
      | 0, q => exact .inl ⟨rfl, by simpa using q.symm⟩
      | 1, q => exact .inr ⟨rfl, by simpa using q.symm⟩
      | j + 2, q => simp at q
    rcases hi' with ⟨rfl, rfl⟩ | ⟨rfl, rfl⟩
    · refine inner_dots (s := { s with heap := h, toks := tk }) (f := f0) hh F' X T ed hkeep (by exact hg) (hclos c C) hcell hkind hnames hxo (hat c C) (by simp) hc (hdk c C) hdd hd1 hd2 hk2 (hrows c C)
        (by show List.lookup rows ((change, c) :: cl) = some cm; rw [List.lookup_cons, hne]; exact hclm) hcm (hrl.at fun o e => hk _ o e) (hr0.at fun o e => hk _ o e) (hr1.at fun o e => hk _ o e) hi hj hlen hsz hd3 hs1 hs2 ?_ ?_ (by intro _; rfl) ?_
      · intro Q' hq
        exact LCgL.ld_built (s := { s with heap := h, toks := tk }) F' X T ez hv (by decide) hq hg hb hk2 (hzk c C)
      · intro T' x y tx ty h' tk' E'' Q' F'' hk' hT hq
        exact hcall0 T' x y tx ty h' tk' E'' Q' F'' (up hk') hT hq
      · intro D vs h' tk' hI hD hge hk'
        exact ⟨h', tk', rfl, hk', D, vs, rfl, Nat.le_trans hsz' hge, hD, fun _ => hI, fun q => absurd q (by decide)⟩
    · refine inner_dots (s := { s with heap := h, toks := tk }) (f := f1) hh F' X T ed hkeep (by exact hg) (hclos c C) hcell hkind hnames hxo (hat c C) (by simp) hc (hdk c C) hdd hd1 hd2 hk2 (hrows c C)
        (by show List.lookup rows ((change, c) :: cl) = some cm; rw [List.lookup_cons, hne]; exact hclm) hcm (hrl.at fun o e => hk _ o e) (hr0.at fun o e => hk _ o e) (hr1.at fun o e => hk _ o e) hi hj hlen hsz hd3 hs1 hs2 ?_ ?_ (by intro _; rfl) ?_
      · intro Q' hq
        exact LCgL.ld_built (s := { s with heap := h, toks := tk }) F' X T ez hv (by decide) hq hg hb hk2 (hzk c C)
      · intro T' x y tx ty h' tk' E'' Q' F'' hk' hT hq
        exact hcall1 T' x y tx ty h' tk' E'' Q' F'' (up hk') hT hq
      · intro D vs h' tk' hI hD hge hk'
        exact ⟨h', tk', rfl, hk', D, vs, rfl, Nat.le_trans hsz' hge, hD, fun q => absurd q (by decide), fun _ => hI⟩
  · intro us D h tk hl hy hD hge hk
    match us, hl with
    | [y0, y1], _ =>
      obtain ⟨c0, w0, rfl, g0, e0, z0, _⟩ := hy 0 y0 rfl
      obtain ⟨c1, w1, rfl, g1, e1, _, z1⟩ := hy 1 y1 rfl
      have F' : Fr h₀ L h m := F.keeps hk
      have hLlt : L < s.heap.objs.size := F.ns.lt
      have new : ∀ b o, s.heap.objs.size ≤ b → h.get? b = some o → h.get? b = some o ∧ b ≠ L ∧ h₀.get? b = none := fun b o hb e => by
        refine ⟨e, fun z => absurd hLlt (z ▸ Nat.not_lt.mpr hb), ?_⟩
        cases q : h₀.get? b with
        | none => rfl
        | some o => exact absurd (Heap.lt_size (F.keep _ _ q)) (Nat.not_lt.mpr hb)
      refine done D c0 c1 w0 w1 h tk F' ?_ (z0 rfl) (z1 rfl)
      intro q hq
      rcases List.mem_cons.mp hq with rfl | hq
      · exact new _ _ hge hD
      rcases List.mem_cons.mp hq with rfl | hq
      · exact new _ _ (Nat.le_trans (Nat.le_add_right _ 4) g0) e0
      rcases List.mem_cons.mp hq with rfl | hq
      · exact new _ _ (Nat.le_trans (Nat.le_add_right _ 4) g1) e1
      · exact (N.grown hk) q hq
end
end Mine
end
section -- LawN
set_option maxRecDepth 100000
open PySem PySem.W PySem.Calls PyProof.Rows PyProof.V PySem.Spec PyProof.Rows.LCg
namespace Mine
section
variable {w : World} {mean : ExcName → Option Value} {mg mb : Str → Option Value} {dp un : Nat} {gd : Option (List Code)} {cn : Str} {cs : Scope} {a : Addr} {ccd : Value} {cl : List (Str × Addr)} {outer : List Env} {A₀ : Around} {base h₀ : Heap} {L : Addr} {m : Str → Option Value} {s : Shared} {Q E : Value → Shared → Prop} {news : List (Addr × Obj)}
theorem law_nest {env : Env} {change column rows dotn : Str} {p1 p2 p3 p4 p5 p6 p7 p8 p9 p10 p11 pd pz pos2 px : Pos} {k1 k2 : Nat} {scope scope2 : Scope} {cl' : List (Str × Addr)}
    {cm la rl r0 r1 ch0 ch1 : Addr} {ocm : Obj} {v0 v1 : List Value} {n : Nat} {mm r x y z u : Int} {tx ty tz tu : Tok}
    (B : Below A₀ base outer h₀) (F : Fr h₀ L s.heap m) (N : PyProof.Rows.News h₀ L s.heap news) (X : (hd.heap_39 w.params).In h₀) (T : Top hd.view_39 (looseW hd.view_39 []) mean mg mb h₀) (hk : cs.kind = .function)
    (hdp : dp + 4 < recursionLimit) (hun : un + 8 * 4 < cLine)
    (hm : (cm, ocm) ∈ news) (hcd : ocm.data = .cell (some (.ref rl))) (hla : s.heap.IsList la #[.ref ch0, .ref ch1])
    (hc0 : s.heap.IsList ch0 #[.int x tx, .int y ty]) (hc1 : s.heap.IsList ch1 #[.int z tz, .int u tu]) (told : Told n mm r x y z u) (hn : n ≤ 2)
    (hrl : s.heap.IsList rl #[.ref r0, .ref r1]) (hr0 : s.heap.IsList r0 v0.toArray) (hr1 : s.heap.IsList r1 v1.toArray) (hi : IntsAre v0 (rowsX n mm)) (hj : IntsAre v1 (rowsY n r))
    (ed : nsIn (hd.heap_39 w.params) mainGlobals dotn = some (some (.ref 115))) (hkeep : keepIn (hd.heap_39 w.params) (.ref 115) = true) (ez : nsIn (hd.heap_39 w.params) mainGlobals "zip" = some none) (hv : bootBuiltins "zip" = some (.type "zip")) (hg : env.globals = mainGlobals) (hb : env.builtins = builtinsNs)
    (hclos : ∀ c C, closureFor scope2 (compEnvC scope ((change, c) :: cl') C env) = pure [(change, c)]) (hcell : ∀ y ∈ scope2.names, y.2 ≠ .cell) (hkind : scope2.kind = .function) (hnames : ∀ y ∈ scope2.names, y.2 = .local → scope2.names.lookup y.1 = some .local)
    (hxo : scope2.names.lookup column = some .local) (hat : ∀ c C C', (compEnvC scope2 [(change, c)] C' (compEnvC scope ((change, c) :: cl') C env)).kindOf change = some .cell)
    (hdk : ∀ c C C', (compEnvC scope2 [(change, c)] C' (compEnvC scope ((change, c) :: cl') C env)).kindOf dotn = some .globalImplicit)
    (hk2 : scope.kind = .function) (hrows : ∀ c C, (compEnvC scope ((change, c) :: cl') C env).kindOf rows = some .cell) (hclm : cl'.lookup rows = some cm) (hne : (rows == change) = false)
    (hzk : ∀ c C, (compEnvC scope ((change, c) :: cl') C env).kindOf "zip" = some .globalImplicit)
    (hdd : (dotn == ("__debug__" : Str)) = false) (hd1 : (column == ("__debug__" : Str)) = false) (hd2 : (change == ("__debug__" : Str)) = false) (hd3 : (rows == ("__debug__" : Str)) = false)
    (hs1 : ∀ u, subscripted (.Constant (.int 0) k1 p6) false (.ref rl) (.int 0 u) = operate [.ref rl, .int 0 u] (getItem (.ref rl) (.int 0 u)))
    (hs2 : ∀ u, subscripted (.Constant (.int 1) k2 p9) false (.ref rl) (.int 1 u) = operate [.ref rl, .int 1 u] (getItem (.ref rl) (.int 1 u)))
    (done : ∀ D c0 c1 w0 w1 h' tk, Fr h₀ L h' m → PyProof.Rows.News h₀ L h' ((D, lst [.ref c0, .ref c1]) :: (c0, lst w0) :: (c1, lst w1) :: news) → IntsAre w0 ((x * mm + y * r) :: List.replicate n y) → IntsAre w1 ((z * mm + u * r) :: List.replicate n u) → Q (.ref D) { s with heap := h', toks := tk }) :
    wpAny (model PySem.Challenge.rw_sy0001_01.row.prog w) (ktrTop dp un gd cn cs L a ccd cl outer) (pyIter (.ref la))
      (CompAtC PySem.Challenge.rw_sy0001_01.row.prog w (ktrTop dp un gd cn cs L a ccd cl outer) env (.ListComp (.Call (.Name dotn pd) [.Name change p1, .Name column p2] [] p3) [⟨.Name column p4, .Call (.Name "zip" pz) [.Subscript (.Name rows p5) (.Constant (.int 0) k1 p6) p7, .Subscript (.Name rows p8) (.Constant (.int 1) k2 p9) p10] [] p11, [], 0⟩] scope2 pos2) change px scope cl' Q) E s := by
  have sz : 3 ≤ sizeLine := by decide
  have lx : (rowsX n mm).length = n + 1 := by simp [rowsX]
  have ly : (rowsY n r).length = n + 1 := by simp [rowsY]
  have e0 : ∀ x y : Int, List.zipWith (fun p q => x * p + y * q) (rowsX n mm) (rowsY n r) = (x * mm + y * r) :: List.replicate n y := fun x y => lin_rows n mm r x y
  have go : ∀ (ch : Addr) (x y : Int) (tx ty : Tok), s.heap.IsList ch #[.int x tx, .int y ty] → (∀ k ∈ [x, y], -2 ^ 64 < k ∧ k < 2 ^ 64) →
      ∀ (T : Addr) (p q : Int) tp tq h tk (E' : Value → Shared → Prop) (Q' : Value → Shared → Prop), Fr h₀ L h m → (∀ c o, s.heap.get? c = some o → h.get? c = some o) → h.IsTuple T #[.int p tp, .int q tq] →
      (∀ t h' tk', (∀ c o, h.get? c = some o → h'.get? c = some o) → Q' (.int (x * p + y * q) t) { s with heap := h', toks := tk' }) →
      wpAny (model PySem.Challenge.rw_sy0001_01.row.prog w) (ktrTop dp un gd cn cs L a ccd cl outer) (call (.ref 115) [.ref ch, .ref T]) Q' E' { s with heap := h, toks := tk } := by
    intro ch x y tx ty hch hbd T' p q tp tq h tk E' Q' F' hk' hT hq
    refine (ldot_c w mean mg mb ch T' [.int x tx, .int y ty] [.int p tp, .int q tq] [x, y] [p, q] (.cons _ _ (.cons _ _ .nil)) (.cons _ _ (.cons _ _ .nil)) rfl (Nat.le_trans (by show 2 ≤ 3; decide) sz) hbd) dp un gd cn cs a ccd cl outer A₀ base h₀ L m { s with heap := h, toks := tk } Q' E' B F' X T hk hdp hun ⟨hch.at fun o e => hk' _ o e, .inr hT⟩ fun v h' tk' hk'' hp => ?_
    obtain ⟨t, rfl⟩ := hp
    rw [two_dot]
    exact hq t h' tk' hk''
  refine nest_at (f0 := fun p q => x * p + y * q) (f1 := fun p q => z * p + u * q) rfl F N X T hm hcd hla hrl hr0 hr1 hi hj (by rw [lx, ly]) (by rw [lx]; exact Nat.le_trans (Nat.succ_le_succ hn) sz) ed hkeep ez hv hg hb hclos hcell hkind hnames hxo hat hdk hk2 hrows hclm hne hzk hdd hd1 hd2 hd3 hs1 hs2
    (go ch0 x y tx ty hc0 told.ba) (go ch1 z u tz tu hc1 told.bc) fun D c0 c1 w0 w1 h' tk F' N' i0 i1 => ?_
  rw [e0] at i0 i1
  exact done D c0 c1 w0 w1 h' tk F' N' i0 i1
end
end Mine
end
section -- Cmp
set_option maxRecDepth 100000
open PySem PySem.W PySem.Calls PyProof.Rows PyProof.V PySem.Spec PyProof.Rows.LCg
namespace Mine
theorem shaped2 (xs ys : List Int) : SeqAt.shaped (.list [.list (xs.map PyData.int), .list (ys.map PyData.int)]) = true := by
  simp [SeqAt.shaped, PyData.canLay0, PyData.canLayAll0, PyData.depth, PyData.depthAll, ke_canLayAll0, ke_depthAll]
section
variable {prog : Program} {w : World} {A : Around} {E : Value → Shared → Prop} {s : Shared}
theorem reads2 {h : Heap} {a a0 a1 : Addr} {v0 v1 : List Value} {xs ys : List Int} (ha : h.IsList a #[.ref a0, .ref a1]) (h0 : h.IsList a0 v0.toArray) (h1 : h.IsList a1 v1.toArray) (i0 : IntsAre v0 xs) (i1 : IntsAre v1 ys) :
    ∃ as, Reads h (.ref a) (.list [.list (xs.map PyData.int), .list (ys.map PyData.int)]) as := by
  obtain ⟨o, ho, hc, n, hd⟩ := id ha
  exact ⟨_, .list ho hc hd (.cons (reads_newData h0 (ke_carried i0)) (.cons (reads_newData h1 (ke_carried i1)) .nil))⟩
/-- two lists of two int lists each, that hold the same numbers -/
theorem ne_same2 {a a0 a1 b b0 b1 : Addr} {va0 va1 vb0 vb1 : List Value} {xs ys : List Int} {Q : Value → Shared → Prop} (ha : s.heap.IsList a #[.ref a0, .ref a1]) (hb : s.heap.IsList b #[.ref b0, .ref b1])
    (h1 : s.heap.IsList a0 va0.toArray) (h2 : s.heap.IsList a1 va1.toArray) (h3 : s.heap.IsList b0 vb0.toArray) (h4 : s.heap.IsList b1 vb1.toArray)
    (i1 : IntsAre va0 xs) (i2 : IntsAre va1 ys) (i3 : IntsAre vb0 xs) (i4 : IntsAre vb1 ys) (hu : A.units + 64 < cLine) (h : Q (.bool false) s) :
    wpAny (model prog w) A (compareOp .NotEq (.ref a) (.ref b)) Q E s := by
  obtain ⟨as, ra⟩ := reads2 ha h1 h2 i1 i2
  obtain ⟨bs, rb⟩ := reads2 hb h3 h4 i3 i4
  refine ne_dataH ra rb (shaped2 _ _) (shaped2 _ _) hu ?_
  have e : PyData.eqv (.list [.list (xs.map PyData.int), .list (ys.map PyData.int)]) (.list [.list (xs.map PyData.int), .list (ys.map PyData.int)]) = true := by
    simp [PyData.eqv, PyData.eqvAll, ked_eqvAll]
  rw [e]
  exact h
theorem ne_ints {a b : Addr} {xs ys : List Value} {ns ms : List Int} {Q : Value → Shared → Prop} (ha : s.heap.IsList a xs.toArray) (hb : s.heap.IsList b ys.toArray) (hi : IntsAre xs ns) (hj : IntsAre ys ms) (hu : A.units + 64 < cLine) (e : ns = ms) (h : Q (.bool false) s) :
    wpAny (model prog w) A (compareOp .NotEq (.ref a) (.ref b)) Q E s :=
  ke_ne_ints ha hb hi hj hu (by rw [decide_eq_true e]; exact h)
theorem drop_eq (p b : Int) (n : Nat) : List.drop 1 (p :: List.replicate n b) = (List.replicate n [b]).flatten := by simp
theorem fmod_row (a b m r : Int) : Int.fmod (a * m + b * r - r * b) m = 0 := by
  have : a * m + b * r - r * b = m * a := by grind
  rw [this]
  exact Int.mul_fmod_right m a
theorem end_tail3 {h₀ : Heap} {L I C D : Addr} {m : Str → Option Value} {s₁ : Shared} {oI oC oD : Obj} {S : List (Addr × Obj) → Prop} {rest : Value → List (Addr × Obj) → Prop} {y : Value} {h' : Heap} {tk : Nat} {t1 t2 t3 : Addr × Obj} {news' : List (Addr × Obj)}
    (F : Fr h₀ L h' m) (N : PyProof.Rows.News h₀ L h' (t1 :: t2 :: t3 :: (I, oI) :: (C, oC) :: (D, oD) :: news')) (off : Off3 I C D news') (hS : S news') (r : rest y news') :
    CompEnd h₀ L m s₁ I oI C oC D oD S rest y { s₁ with heap := h', toks := tk } :=
  CompEnd.intro F N news' (fun p hp => .tail _ (.tail _ (.tail _ hp))) off hS r
theorem tup_in {h₀ h : Heap} {L a : Addr} {news : List (Addr × Obj)} {items : Array Value} {n : Nat} {d : Option Addr} {sl : Array (Option Value)} (N : PyProof.Rows.News h₀ L h news) (hm : (a, ({ cls := .type "tuple", dict := d, data := .seq items n, slots := sl } : Obj)) ∈ news) : h.IsTuple a items := N.isTup hm
theorem row_len {n : Nat} {p b : Int} (h : n ≤ 2) : (p :: List.replicate n b).length ≤ sizeLine := by
  rw [List.length_cons, List.length_replicate]
  exact Nat.le_trans (Nat.succ_le_succ h) (by decide)
theorem mul_told {n : Nat} {m r a b c d x y : Int} {t u : Tok} {Q : Value → Shared → Prop} (T : Told n m r a b c d) (e : x = a ∨ x = b ∨ x = c ∨ x = d) (h : Q (.int (x * y) s.toks) { s with toks := s.toks + 1 }) :
    wpAny (model prog w) A (binaryOp .Mult (.int x t) (.int y u)) Q E s := by
  have hb := T.bd
  refine mul_int h (IntMulOk.of_left (intBits_le_64 ?_ ?_))
  · rcases e with rfl | rfl | rfl | rfl <;> omega
  · rcases e with rfl | rfl | rfl | rfl <;> omega
theorem mul_small {x y : Int} {t u : Tok} {Q : Value → Shared → Prop} (e : -100000 < x ∧ x < 100000) (h : Q (.int (x * y) s.toks) { s with toks := s.toks + 1 }) :
    wpAny (model prog w) A (binaryOp .Mult (.int x t) (.int y u)) Q E s :=
  mul_int h (IntMulOk.of_left (intBits_le_64 (by omega) (by omega)))
theorem ne_one {k : Int} {t u : Tok} {Q : Value → Shared → Prop} (h : k = 1 ∨ k = -1) (hQ : Q (.bool false) s) : wpAny (model prog w) A (compareOp .NotEq (.int (if k < 0 then -k else k) t) (.int 1 u)) Q E s := by
  refine ne_int ?_
  have e : ((if k < 0 then -k else k) != 1) = false := by
    rcases h with rfl | rfl <;> decide
  rw [e]
  exact hQ
theorem ne_zero {k : Int} {t u : Tok} {Q : Value → Shared → Prop} (h : k = 0) (hQ : Q (.bool false) s) : wpAny (model prog w) A (compareOp .NotEq (.int k t) (.int 0 u)) Q E s := by
  refine ne_int ?_
  have e : (k != 0) = false := by rw [h]; rfl
  rw [e]
  exact hQ
theorem eq_tup3 {a b : Addr} {x y z : Int} {t1 t2 t3 u1 u2 u3 : Tok} {Q : Value → Shared → Prop} (ha : s.heap.IsTuple a #[.int x t1, .int y t2, .int z t3]) (hb : s.heap.IsTuple b #[.int x u1, .int y u2, .int z u3]) (hu : A.units + 64 < cLine) (h : Q (.bool true) s) :
    wpAny (model prog w) A (compareOp .Eq (.ref a) (.ref b)) Q E s := by
  obtain ⟨o, ho, hc, n, hd⟩ := ha
  obtain ⟨o', ho', hc', n', hd'⟩ := hb
  refine eq_dataH (.tuple ho hc hd (.cons (.int x t1) (.cons (.int y t2) (.cons (.int z t3) .nil)))) (.tuple ho' hc' hd' (.cons (.int x u1) (.cons (.int y u2) (.cons (.int z u3) .nil)))) rfl rfl hu ?_
  have e : PyData.eqv (.tuple [.int x, .int y, .int z]) (.tuple [.int x, .int y, .int z]) = true := by
    simp [PyData.eqv, PyData.eqvAll]
  rw [e]
  exact h
end
section
variable {w : World} {mean : ExcName → Option Value} {mg mb : Str → Option Value} {dp un : Nat} {gd : Option (List Code)} {cn : Str} {cs : Scope} {a : Addr} {ccd : Value} {cl : List (Str × Addr)} {outer : List Env} {A₀ : Around} {base h₀ : Heap} {L : Addr} {m : Str → Option Value} {s : Shared} {Q E : Value → Shared → Prop} {news : List (Addr × Obj)}
theorem ldot_use {la lb : Addr} {va vb : List Value} {xs ys : List Int} {v : Int} (B : Below A₀ base outer h₀) (F : Fr h₀ L s.heap m) (N : PyProof.Rows.News h₀ L s.heap news) (X : (hd.heap_39 w.params).In h₀) (T : Top hd.view_39 (looseW hd.view_39 []) mean mg mb h₀) (hk : cs.kind = .function)
    (hd : dp + 4 < recursionLimit) (hu : un + 8 * 4 < cLine) (ha : s.heap.IsList la va.toArray) (hb : s.heap.IsList lb vb.toArray) (hi : IntsAre va xs) (hj : IntsAre vb ys) (hlen : xs.length = ys.length) (hsz : xs.length ≤ sizeLine) (hbd : ∀ x ∈ xs, -2 ^ 64 < x ∧ x < 2 ^ 64) (e : dot xs ys = v)
    (ret : ∀ t h' tk', Fr h₀ L h' m → PyProof.Rows.News h₀ L h' news → Q (.int v t) { s with heap := h', toks := tk' }) :
    wpAny (model PySem.Challenge.rw_sy0001_01.row.prog w) (ktrTop dp un gd cn cs L a ccd cl outer) (call (.ref 115) [.ref la, .ref lb]) Q E s :=
  (ldot_c w mean mg mb la lb va vb xs ys hi hj hlen hsz hbd) dp un gd cn cs a ccd cl outer A₀ base h₀ L m s Q E B F X T hk hd hu ⟨ha, .inl hb⟩ fun v' h' tk' hk' hp => by
    obtain ⟨t, rfl⟩ := hp
    rw [e]
    exact ret t h' tk' (F.keeps hk') (N.grown hk')
theorem nat_mul {x m : Int} (h : 0 ≤ x) : ((x.toNat : Nat) : Int) * m = x * m := by rw [Int.toNat_of_nonneg h]
end
end Mine
end
section -- Law1
open PySem PySem.W PySem.Calls PyProof.Rows PyProof.Rows.LCg
namespace Mine
theorem ints_eq {vs : List Value} {ns ms : List Int} (h : IntsAre vs ns) (e : ns = ms) : IntsAre vs ms := e ▸ h
theorem getD_mem {ds : List Int} {x : Int} (h : 0 ≤ x) (h2 : x < (ds.length : Nat)) : ds.getD x.toNat 0 ∈ ds := by
  have : x.toNat < ds.length := by omega
  rw [List.getD_eq_getElem?_getD, List.getElem?_eq_getElem this]
  exact List.getElem_mem this
theorem fmod_to {N M m : Int} (h : Int.fmod N m = 0) (e : N = M) : Int.fmod M m = 0 := e ▸ h
def StopX (P : Prop) : Prop := P
theorem stopX {P : Prop} (h : StopX P) : P := h
local macro_rules | `(tactic| k_lt $h) => `(tactic| skip)
local macro_rules | `(tactic| k_ne) => `(tactic| (refine neN ?_; (try dsimp only); first | exact Nat.ne_of_lt (lt_all (by assumption) (by k_mem)) | exact Nat.ne_of_gt (lt_all (by assumption) (by k_mem)) | exact ne_all (by assumption) (by k_mem) | exact Ne.symm (ne_all (by assumption) (by k_mem)) | omega))
local macro_rules | `(tactic| walk_at "eval ListComp") => `(tactic| (k_here; (with_reducible show wpAny _ _ (eval (Expr.ListComp (Expr.ListComp _ _ _ _) _ _ _) _) _ _ _); (k_dflt (refine comp_evalC (by with_unfolding_all rfl) (by intro _ _; rfl) (by intro _; rfl) (by rfl) (by decide) (by intro _ _; rfl) ?_))))
local macro_rules | `(tactic| walk_at "binaryOp Mult int int") => `(tactic| (k_here; k_dflt (first | refine mul_told (by assumption) (by simp only [true_or, or_true]) ?_ | refine mul_small (by omega) ?_)))
local macro_rules | `(tactic| walk_at "compareOp NotEq int int") => `(tactic| (k_here; first | refine ne_one (by assumption) ?_ | refine ne_zero (fmod_row _ _ _ _) ?_ | refine stopX ?_))
local macro_rules | `(tactic| walk_at "subscriptTail Name Constant ref int") => `(tactic| (k_here; (with_reducible show wpAny _ _ (subscriptTail _ _ (Value.ref _) (Value.int _ _)) _ _ _); k_dflt ((refine' item_written ?k1 ?k2 ?k3 ?k4 ?_ ?k6); (case k1 => is_list); (case k2 => decide); (case k3 => decide); (case k4 => rfl); (case k6 => with_unfolding_all rfl); k_whole; (try dsimp only))))
local macro_rules | `(tactic| walk_at "call ref") => `(tactic| (k_here; refine stopX ?_))
local macro_rules | `(tactic| walk_at "pyIter ref") => `(tactic| (k_here; (with_reducible show wpAny _ _ (pyIter (Value.ref _)) (CompAtC _ _ _ _ _ _ _ _ _ _) _ _); refine stopX ?_))
local macro_rules | `(tactic| walk_at "compareOp NotEq ref ref") => `(tactic| (k_here; refine stopX ?_))
local macro_rules | `(tactic| walk_at "compareOp Eq ref ref") => `(tactic| (k_here; refine stopX ?_))
local macro_rules | `(tactic| walk_at "subscriptTail Name Slice ref ref") => `(tactic| (k_here; (with_reducible show wpAny _ _ (subscriptTail _ (PySem.Expr.Slice (some _) none none _) (Value.ref _) (Value.ref _)) _ _ _); refine stopX ?_))
local macro_rules | `(tactic| walk_at "CompEnd") => `(tactic| (k_here; (with_reducible show CompEnd _ _ _ _ _ _ _ _ _ (lst []) _ _ _ _); refine stopX ?_))
set_option maxRecDepth 100000 in
set_option maxHeartbeats 4000000 in
theorem t1 : PySem.Challenge.rw_sy0001_01.Holds := hd (by
  w_top off
  k_go0
  k_steps
  unfold StopX
  with_reducible ((with_reducible show wpAny _ _ (call (Value.ref 110) [Value.ref _, Value.int _ _]) _ _ _); (k_dflt ((rename Fr _ _ _ _ => lF'); (rename News _ _ _ _ => lN'); (refine' draw_use (below_caller _) lF' lN' ?k3Za ?k4Za ?kKZa ?kdZa ?kuZa ?kaZa ?kbZa ?kcZa ?keZa ?kfZa ?kgZa ?khZa ?_); (case k3Za => k_asm); (case k4Za => k_asm); (case kKZa => exact rfl); (case kdZa => first | ktr_room | decide +kernel); (case kuZa => first | ktr_units | decide +kernel); (case kaZa => omega); (case kbZa => assumption); (case kcZa => omega); (case keZa => omega); (case kfZa => k_ne); (case kgZa => k_all); (case khZa => (first | omega | (simp only [List.length_map, List.length_take] at *; omega))); clear lF' lN'; intro x9 t9 u9 k9 h9 tk9 F9 N9 b9 b8; (try k_fold))))
  k_steps
  unfold StopX
  with_reducible ((with_reducible show wpAny _ _ (call (Value.ref 110) [Value.ref _, Value.int _ _]) _ _ _); (k_dflt ((rename Fr _ _ _ _ => lF'); (rename News _ _ _ _ => lN'); (refine' draw_use (below_caller _) lF' lN' ?k3Zb ?k4Zb ?kKZb ?kdZb ?kuZb ?kaZb ?kbZb ?kcZb ?keZb ?kfZb ?kgZb ?khZb ?_); (case k3Zb => k_asm); (case k4Zb => k_asm); (case kKZb => exact rfl); (case kdZb => first | ktr_room | decide +kernel); (case kuZb => first | ktr_units | decide +kernel); (case kaZb => omega); (case kbZb => assumption); (case kcZb => omega); (case keZb => omega); (case kfZb => k_ne); (case kgZb => k_all); (case khZb => (first | omega | (simp only [List.length_map, List.length_take] at *; omega))); clear lF' lN'; intro x9 t9 u9 k9 h9 tk9 F9 N9 b9 b8; (try k_fold))))
  k_steps
  unfold StopX
  with_reducible ((with_reducible show wpAny _ _ (call (Value.ref 103) [Value.int _ _]) _ _ _); (k_dflt ((rename Fr _ _ _ _ => lF'); (rename News _ _ _ _ => lN'); (refine' div_use (below_caller _) lF' lN' ?k3Zc ?k4Zc ?kKZc ?kdZc ?kuZc ?kaZc ?kbZc ?kcZc ?_); (case k3Zc => k_asm); (case k4Zc => k_asm); (case kKZc => exact rfl); (case kdZc => first | ktr_room | decide +kernel); (case kuZc => first | ktr_units | decide +kernel); (case kaZc => exact (num_lt (by omega) (by omega) (by omega) (by omega)).1); (case kbZc => exact (num_lt (by omega) (by omega) (by omega) (by omega)).2); (case kcZc => exact okN_of (by omega) (by omega) (by omega) (by omega)); clear lF' lN'; intro D9 v9 k9 d9 h9 tk9 F9 N9 a9 i9 q9 g9 e9 f9; (try k_fold))))
  k_steps
  unfold StopX
  with_reducible ((with_reducible show wpAny _ _ (call (Value.ref 110) [Value.ref _, Value.int _ _]) _ _ _); (k_dflt ((rename Fr _ _ _ _ => lF'); (rename News _ _ _ _ => lN'); (refine' draw_use2 (below_caller _) lF' lN' ?k3Zd ?k4Zd ?kKZd ?kdZd ?kuZd ?kaZd ?kbZd ?kcZd ?keZd ?kfZd ?kgZd ?khZd ?_); (case k3Zd => k_asm); (case k4Zd => k_asm); (case kKZd => exact rfl); (case kdZd => first | ktr_room | decide +kernel); (case kuZd => first | ktr_units | decide +kernel); (case kaZd => omega); (case kbZd => assumption); (case kcZd => omega); (case keZd => omega); (case kfZd => k_ne); (case kgZd => k_all); (case khZd => (first | omega | (simp only [List.length_map, List.length_take] at *; omega))); clear lF' lN'; intro x9 t9 u9 k9 h9 tk9 F9 N9 b9 b8; (try k_fold))); (have N9 := cut_draw N9))
  k_steps
  unfold StopX
  with_reducible ((with_reducible show wpAny _ _ (call (Value.ref 84) [Value.ref _, Value.int _ _, Value.int _ _]) _ _ _); (k_dflt ((rename Fr _ _ _ _ => lF'); (rename News _ _ _ _ => lN'); (refine' lll_use (below_caller _) lF' lN' ?k3Ze ?k4Ze ?kKZe ?kdZe ?kuZe ?kaZe ?kbZe ?kcZe ?keZe ?kfZe ?kgZe ?khZe ?kiZe ?kjZe ?klZe ?kmZe ?_); (case k3Ze => k_asm); (case k4Ze => k_asm); (case kKZe => exact rfl); (case kdZe => first | ktr_room | decide +kernel); (case kuZe => first | ktr_units | decide +kernel); (case kaZe => is_list); (case kbZe => is_list); (case kcZe => is_list); (case keZe => refine ints_eq (by assumption) (by rw [rows_eq]; rfl)); (case kfZe => refine ints_eq (by assumption) (by rw [rows_eq]; rfl)); (case kgZe => omega); (case khZe => omega); (case kiZe => (rename ∀ x ∈ _, 0 < x ∧ x < 100000 ∧ _ => lq'; exact (lq' _ (getD_mem (by omega) (by omega))).1)); (case kjZe => omega); (case klZe => omega); (case kmZe => (rename ∀ x ∈ _, 0 < x ∧ x < 100000 ∧ _ => lq'; refine fmod_to (lq' _ (getD_mem (by omega) (by omega))).2.2 (by omega))); clear lF' lN'; intro T9 fa9 ca9 f09 f19 c09 c19 w09 w19 p09 p19 p29 p39 t09 t19 t29 t39 nf9 nc9 n09 n19 n29 n39 a9 b9 c9 d9 h9 tk9 F9 N9 i09 i19 told9; have e9 := told9.det; have m9 := told9.pos; (try k_fold))); (have N9 := cut_led N9))
  k_steps
  unfold StopX
  with_reducible ((with_reducible show wpAny _ _ (pyIter (Value.ref _)) (CompAtC _ _ _ _ _ _ _ _ _ _) _ _); (k_dflt ((rename Fr _ _ _ _ => lF'); (rename News _ _ _ _ => lN'); (refine' law_nest (below_caller _) lF' lN' ?k3Zf ?k4Zf ?kKZf ?kdZf ?kuZf ?a1Zf ?a2Zf ?a3Zf ?a4Zf ?a5Zf ?a6Zf ?a7Zf ?b1Zf ?b2Zf ?b3Zf ?b4Zf ?b5Zf ?c1Zf ?c2Zf ?c3Zf ?c4Zf ?c5Zf ?c6Zf ?d1Zf ?d2Zf ?d3Zf ?d4Zf ?d5Zf ?d6Zf ?d7Zf ?d8Zf ?d9Zf ?e1Zf ?e2Zf ?e3Zf ?f1Zf ?f2Zf ?f3Zf ?f4Zf ?g1Zf ?g2Zf ?_); (case k3Zf => k_asm); (case k4Zf => k_asm); (case kKZf => exact rfl); (case kdZf => first | ktr_room | decide +kernel); (case kuZf => first | ktr_units | decide +kernel); (case e1Zf => with_unfolding_all rfl); (case a1Zf => k_mem); (case a2Zf => with_unfolding_all assumption); (case a3Zf => is_list); (case a4Zf => is_list); (case a5Zf => is_list); (case a6Zf => assumption); (case a7Zf => omega); (case b1Zf => is_list); (case b2Zf => is_list); (case b3Zf => is_list); (case b4Zf => refine ints_eq (by assumption) (by rw [rows_eq]; rfl)); (case b5Zf => refine ints_eq (by assumption) (by rw [rows_eq]; rfl)); (case c1Zf => k_is); (case c2Zf => k_is); (case c3Zf => k_is); (case c4Zf => boot_by_name); (case c5Zf => rfl); (case c6Zf => rfl); (case d1Zf => intro _ _; with_unfolding_all rfl); (case d2Zf => decide); (case d3Zf => rfl); (case d4Zf => decide); (case d5Zf => rfl); (case d6Zf => intro _ _ _; rfl); (case d7Zf => intro _ _ _; rfl); (case d8Zf => rfl); (case d9Zf => intro _ _; rfl); (case e2Zf => decide); (case e3Zf => intro _ _; rfl); (case f1Zf => decide); (case f2Zf => decide); (case f3Zf => decide); (case f4Zf => decide); (case g1Zf => intro _; with_unfolding_all rfl); (case g2Zf => intro _; with_unfolding_all rfl); clear lF' lN'; intro D9 c09 c19 w09 w19 h9 tk9 F9 N9 i09 i19; (try k_fold))))
  k_steps
  unfold StopX
  with_reducible ((with_reducible show wpAny _ _ (compareOp CmpOp.NotEq (Value.ref _) (Value.ref _)) _ _ _); (k_dflt ((refine' ne_same2 ?k1Zg ?k2Zg ?k3Zg ?k4Zg ?k5Zg ?k6Zg ?i1Zg ?i2Zg ?i3Zg ?i4Zg ?kuZg ?_); (case k1Zg => is_list); (case k2Zg => is_list); (case k3Zg => is_list); (case k4Zg => is_list); (case k5Zg => is_list); (case k6Zg => is_list); (case i1Zg => assumption); (case i2Zg => assumption); (case i3Zg => assumption); (case i4Zg => assumption); (case kuZg => first | ke_room | decide +kernel))))
  k_steps
  unfold StopX
  with_reducible ((with_reducible show wpAny _ _ (subscriptTail _ (PySem.Expr.Slice (some _) none none _) (Value.ref _) (Value.ref _)) _ _ _); (k_dflt (refine' kmk_slice_ints ?FZh ?NZh ?lZh ?pZh ?qZh ?iZh ?mZh ?cZh ?_ ?sZh ?tZh ?zZh; (case FZh => k_asm); (case NZh => k_asm); (case lZh => kmk_list); (case pZh => exact IsPart.int _ _); (case qZh => exact IsPart.none); (case iZh => assumption); (case mZh => exact kmk_from (by assumption) (by decide)); (case cZh => exact List.length_drop ..); (case sZh => with_unfolding_all rfl); (case tZh => kmk_pure); (case zZh => exact kmk_sz (by assumption) (row_len (by omega))))); intro D' ws' h' F' N' l1 hI' hC' hL'; (try simp only [Int.reduceNeg, Int.neg_neg, Int.reduceToNat] at hI' hC' hL'); (try k_lt l1); (try k_sweep))
  k_steps
  unfold StopX
  with_reducible ((with_reducible show wpAny _ _ (compareOp CmpOp.NotEq (Value.ref _) (Value.ref _)) _ _ _); (k_dflt ((refine' ne_ints ?k1Zi ?k2Zi ?i1Zi ?i2Zi ?kuZi ?eZi ?_); (case k1Zi => is_list); (case k2Zi => is_list); (case i1Zi => first | assumption | l_ints); (case i2Zi => first | assumption | l_ints); (case kuZi => first | ke_room | decide +kernel); (case eZi => first | rfl | exact drop_eq _ _ _ | (simp; done)))))
  k_steps
  unfold StopX
  with_reducible ((k_dflt (refine' end_tail3 ?FZj ?NZj ?offZj ?hSZj ?_; (case FZj => assumption); (case NZj => assumption); (case offZj => first | assumption | (simp only [LCg.Off3, and_true]; assumption)); (case hSZj => lcg_src))); (try k_fold))
  k_steps
  unfold StopX
  with_reducible ((with_reducible show wpAny _ _ (subscriptTail _ (PySem.Expr.Slice (some _) none none _) (Value.ref _) (Value.ref _)) _ _ _); (k_dflt (refine' kmk_slice_ints ?FZk ?NZk ?lZk ?pZk ?qZk ?iZk ?mZk ?cZk ?_ ?sZk ?tZk ?zZk; (case FZk => k_asm); (case NZk => k_asm); (case lZk => kmk_list); (case pZk => exact IsPart.int _ _); (case qZk => exact IsPart.none); (case iZk => assumption); (case mZk => exact kmk_from (by assumption) (by decide)); (case cZk => exact List.length_drop ..); (case sZk => with_unfolding_all rfl); (case tZk => kmk_pure); (case zZk => exact kmk_sz (by assumption) (row_len (by omega))))); intro D' ws' h' F' N' l1 hI' hC' hL'; (try simp only [Int.reduceNeg, Int.neg_neg, Int.reduceToNat] at hI' hC' hL'); (try k_lt l1); (try k_sweep))
  k_steps
  unfold StopX
  with_reducible ((with_reducible show wpAny _ _ (compareOp CmpOp.NotEq (Value.ref _) (Value.ref _)) _ _ _); (k_dflt ((refine' ne_ints ?k1Zl ?k2Zl ?i1Zl ?i2Zl ?kuZl ?eZl ?_); (case k1Zl => is_list); (case k2Zl => is_list); (case i1Zl => first | assumption | l_ints); (case i2Zl => first | assumption | l_ints); (case kuZl => first | ke_room | decide +kernel); (case eZl => first | rfl | exact drop_eq _ _ _ | (simp; done)))))
  k_steps
  unfold StopX
  with_reducible ((k_dflt (refine' end_tail3 ?FZm ?NZm ?offZm ?hSZm ?_; (case FZm => assumption); (case NZm => assumption); (case offZm => first | assumption | (simp only [LCg.Off3, and_true]; assumption)); (case hSZm => lcg_src))); (try k_fold))
  k_steps
  unfold StopX
  with_reducible ((with_reducible show wpAny _ _ (compareOp CmpOp.NotEq (Value.ref _) (Value.ref _)) _ _ _); (k_dflt ((refine' ne_ints ?k1Zn ?k2Zn ?i1Zn ?i2Zn ?kuZn ?eZn ?_); (case k1Zn => is_list); (case k2Zn => is_list); (case i1Zn => first | assumption | l_ints); (case i2Zn => first | assumption | l_ints); (case kuZn => first | ke_room | decide +kernel); (case eZn => first | rfl | exact drop_eq _ _ _ | (simp; done)))))
  k_steps
  unfold StopX
  with_reducible ((with_reducible show wpAny _ _ (call (Value.ref 115) [Value.ref _, Value.ref _]) _ _ _); (k_dflt ((rename Fr _ _ _ _ => lF'); (rename News _ _ _ _ => lN'); (rename Told _ _ _ _ _ _ _ => lT); (refine' ldot_use (below_caller _) lF' lN' ?k3Zo ?k4Zo ?kKZo ?kdZo ?kuZo ?kaZo ?kbZo ?kcZo ?keZo ?kfZo ?kgZo ?khZo ?kiZo ?_); (case k3Zo => k_asm); (case k4Zo => k_asm); (case kKZo => exact rfl); (case kdZo => first | ktr_room | decide +kernel); (case kuZo => first | ktr_units | decide +kernel); (case kaZo => is_list); (case kbZo => is_list); (case kcZo => assumption); (case keZo => assumption); (case kfZo => simp only [List.length_cons, List.length_replicate]); (case kgZo => exact row_len (by omega)); (case khZo => first | exact lT.b0 | exact lT.b1); (case kiZo => first | exact lT.s00 | exact lT.s01 | exact lT.s11.trans (nat_mul (by omega))); clear lF' lN'; intro t9 h9 tk9 F9 N9; (try k_fold))))
  k_steps
  unfold StopX
  with_reducible ((with_reducible show wpAny _ _ (call (Value.ref 115) [Value.ref _, Value.ref _]) _ _ _); (k_dflt ((rename Fr _ _ _ _ => lF'); (rename News _ _ _ _ => lN'); (rename Told _ _ _ _ _ _ _ => lT); (refine' ldot_use (below_caller _) lF' lN' ?k3Zp ?k4Zp ?kKZp ?kdZp ?kuZp ?kaZp ?kbZp ?kcZp ?keZp ?kfZp ?kgZp ?khZp ?kiZp ?_); (case k3Zp => k_asm); (case k4Zp => k_asm); (case kKZp => exact rfl); (case kdZp => first | ktr_room | decide +kernel); (case kuZp => first | ktr_units | decide +kernel); (case kaZp => is_list); (case kbZp => is_list); (case kcZp => assumption); (case keZp => assumption); (case kfZp => simp only [List.length_cons, List.length_replicate]); (case kgZp => exact row_len (by omega)); (case khZp => first | exact lT.b0 | exact lT.b1); (case kiZp => first | exact lT.s00 | exact lT.s01 | exact lT.s11.trans (nat_mul (by omega))); clear lF' lN'; intro t9 h9 tk9 F9 N9; (try k_fold))))
  k_steps
  unfold StopX
  with_reducible ((with_reducible show wpAny _ _ (call (Value.ref 115) [Value.ref _, Value.ref _]) _ _ _); (k_dflt ((rename Fr _ _ _ _ => lF'); (rename News _ _ _ _ => lN'); (rename Told _ _ _ _ _ _ _ => lT); (refine' ldot_use (below_caller _) lF' lN' ?k3Zq ?k4Zq ?kKZq ?kdZq ?kuZq ?kaZq ?kbZq ?kcZq ?keZq ?kfZq ?kgZq ?khZq ?kiZq ?_); (case k3Zq => k_asm); (case k4Zq => k_asm); (case kKZq => exact rfl); (case kdZq => first | ktr_room | decide +kernel); (case kuZq => first | ktr_units | decide +kernel); (case kaZq => is_list); (case kbZq => is_list); (case kcZq => assumption); (case keZq => assumption); (case kfZq => simp only [List.length_cons, List.length_replicate]); (case kgZq => exact row_len (by omega)); (case khZq => first | exact lT.b0 | exact lT.b1); (case kiZq => first | exact lT.s00 | exact lT.s01 | exact lT.s11.trans (nat_mul (by omega))); clear lF' lN'; intro t9 h9 tk9 F9 N9; (try k_fold))))
  k_steps
  unfold StopX
  with_reducible ((with_reducible show wpAny _ _ (compareOp CmpOp.Eq (Value.ref _) (Value.ref _)) _ _ _); (k_dflt ((rename News _ _ _ _ => lN'); (refine' eq_tup3 ?k1Zr ?k2Zr ?kuZr ?_); (case k1Zr => exact tup_in lN' (by k_mem)); (case k2Zr => exact tup_in lN' (by k_mem)); (case kuZr => first | ke_room | decide +kernel))))
  k_steps)
end Mine
end
theorem PySem.Challenge.cw_sy0001_01_holds : PySem.Challenge.rw_sy0001_01.Holds :=
  Mine.t1
