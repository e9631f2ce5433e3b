import PyProof.Rows.All
import Wide.All
import OpenK.AllK
import Wide.FinOn
import HandS.ForMost
import HandS.WordsExc
import HandS.TryOnly
import HandS.Walk
import HandS.Zip
import HandS.Conv
import HandS.TupAny
import HandS.TupMul
import HandS.Style
import HandS.IsInst
import HandS.WideBits
import HandS.Flow
import HandS.MapObj
import KE.SortData
import KE.KDictItemsList
import PySem.Challenge.RW_eighthturns_k33_whole_even_sums_turn_not
import KE.GoesNew
import KE.KEqDeep
set_option Elab.async false
set_option maxRecDepth 100000
/-! EM1: the plain law, part 1: parities, sums over MARKS, SUMS and TURNS to five wires. Core Lean alone. -/
namespace E8

/-- the parity of the common bits of two numbers below 256 -/
def fold8 (c : Nat) : Nat :=
  let d := c ^^^ (c / 16)
  let e := d ^^^ (d / 4)
  (e ^^^ (e / 2)) % 2
def par (a b : Nat) : Nat := fold8 (a &&& b)

/-- added up over places k, k + 1, .. -/
def esum (g : Nat → Int → Int) : Nat → List Int → Int
  | _, [] => 0
  | k, m :: r => g k m + esum g (k + 1) r
def dot (c : Nat → Int) (ms : List Int) : Int := esum (fun k m => m * c k) 0 ms

theorem esum_congr {g g' : Nat → Int → Int} : ∀ (ms : List Int) (k : Nat), (∀ j m, k ≤ j → j < k + ms.length → g j m = g' j m) → esum g k ms = esum g' k ms
  | [], _, _ => rfl
  | m :: r, k, h => by
    have h1 := h k m (Nat.le_refl _) (by simp only [List.length_cons]; omega)
    have h2 := esum_congr r (k + 1) fun j m' a b => h j m' (by omega) (by simp only [List.length_cons]; omega)
    simp only [esum, h1, h2]
theorem esum_add (g g' : Nat → Int → Int) : ∀ (ms : List Int) (k : Nat), esum (fun j m => g j m + g' j m) k ms = esum g k ms + esum g' k ms
  | [], _ => rfl
  | m :: r, k => by
    have ih := esum_add g g' r (k + 1)
    simp only [esum, ih]
    omega
theorem esum_zero : ∀ (ms : List Int) (k : Nat), esum (fun _ _ => 0) k ms = 0
  | [], _ => rfl
  | m :: r, k => by simp only [esum, esum_zero r (k + 1)]; rfl
theorem dot_congr {c d : Nat → Int} {ms : List Int} (h : ∀ k, k < ms.length → c k = d k) : dot c ms = dot d ms :=
  esum_congr ms 0 fun j m _ b => by rw [h j (by omega)]
theorem dot_add (c d : Nat → Int) (ms : List Int) : dot (fun k => c k + d k) ms = dot c ms + dot d ms := by
  unfold dot
  rw [← esum_add]
  exact esum_congr ms 0 fun j m _ _ => Int.mul_add _ _ _
theorem esum_smul (a : Int) (c : Nat → Int) : ∀ (ms : List Int) (k : Nat), esum (fun j m => m * (a * c j)) k ms = a * esum (fun j m => m * c j) k ms
  | [], _ => by simp only [esum, Int.mul_zero]
  | m :: r, k => by
    simp only [esum, esum_smul a c r (k + 1), Int.mul_add]
    rw [Int.mul_left_comm]
theorem dot_smul (a : Int) (c : Nat → Int) (ms : List Int) : dot (fun k => a * c k) ms = a * dot c ms := esum_smul a c ms 0
theorem dot_zero (ms : List Int) : dot (fun _ => 0) ms = 0 := by
  have e : dot (fun _ => 0) ms = esum (fun _ _ => 0) 0 ms := esum_congr ms 0 fun j m _ _ => Int.mul_zero _
  rw [e, esum_zero]
/-- added up over a list of weights -/
def lsum {α : Type} (f : α → Int) : List α → Int
  | [] => 0
  | a :: r => f a + lsum f r
theorem dot_lsum {α : Type} (f : α → Nat → Int) (ms : List Int) : ∀ l : List α, dot (fun k => lsum (fun a => f a k) l) ms = lsum (fun a => dot (f a) ms) l
  | [] => dot_zero ms
  | a :: r => by
    show dot (fun k => f a k + lsum (fun a => f a k) r) ms = dot (f a) ms + lsum (fun a => dot (f a) ms) r
    rw [dot_add, dot_lsum f ms r]
theorem esum_mod8 {c d : Nat → Int} : ∀ (ms : List Int) (k : Nat), (∀ j, k ≤ j → j < k + ms.length → (c j - d j) % 8 = 0) → (esum (fun j m => m * c j) k ms - esum (fun j m => m * d j) k ms) % 8 = 0
  | [], _, _ => rfl
  | m :: r, k, h => by
    have ih := esum_mod8 r (k + 1) fun j a b => h j (by omega) (by simp only [List.length_cons]; omega)
    have h0 := h k (Nat.le_refl _) (by simp only [List.length_cons]; omega)
    have h1 : (m * c k - m * d k) % 8 = 0 := by
      rw [← Int.mul_sub]
      obtain ⟨q, hq⟩ := Int.dvd_of_emod_eq_zero h0
      rw [hq, Int.mul_left_comm]
      exact Int.mul_emod_right _ _
    simp only [esum]
    omega
theorem dot_mod8 {c d : Nat → Int} {ms : List Int} (h : ∀ k, k < ms.length → (c k - d k) % 8 = 0) : (dot c ms - dot d ms) % 8 = 0 :=
  esum_mod8 ms 0 fun j _ b => h j (by omega)

/-! ### sets of wires -/
/-- so many of a list, in order -/
def choose : List Nat → Nat → List (List Nat)
  | _, 0 => [[]]
  | [], _ + 1 => []
  | a :: r, k + 1 => (choose r k).map (a :: ·) ++ choose r (k + 1)
/-- the sets of lo, lo + 1, .. so many turnsM -/
def lotsFrom (n : Nat) : Nat → Nat → List (List Nat)
  | _, 0 => []
  | lo, t + 1 => choose (List.range n) lo ++ lotsFrom n (lo + 1) t
def lots (n lo hi : Nat) : List (List Nat) := lotsFrom n lo (hi + 1 - lo)
def wbit (n q : Nat) : Nat := 2 ^ (n - 1 - q)
def bits (n : Nat) : List Nat → Nat
  | [] => 0
  | q :: r => wbit n q + bits n r
def ind (b : Nat) (k : Nat) : Int := if (k + 1) &&& b = b then 1 else 0
/-- what the marks of all y with these bits come to -/
def asum (b : Nat) (ms : List Int) : Int := dot (ind b) ms
/-- by how many eighths MARKS turnM a place -/
def turnM (ms : List Int) (x : Nat) : Int := dot (fun k => (par (k + 1) x : Int)) ms % 8
def turnsM (ms : List Int) : List Int := (List.range (ms.length + 1)).map (turnM ms)
/-- what of one, two, three wires counts -/
def rmod (lot : List Nat) : Int := if lot.length = 1 then 8 else if lot.length = 2 then 4 else if lot.length = 3 then 2 else 1
def sgn (lot : List Nat) : Int := if lot.length = 1 then 1 else if lot.length = 2 then -2 else if lot.length = 3 then 4 else 0
def restM (n : Nat) (ms : List Int) (lot : List Nat) : Int := asum (bits n lot) ms % rmod lot

def wts (n : Nat) (x : Nat) (lot : List Nat) : Int := if x &&& bits n lot = bits n lot then sgn lot else 0
def chk1 (n : Nat) : Bool := (List.range (2 ^ n)).all fun x => (List.range (2 ^ n - 1)).all fun k =>
  decide (((par (k + 1) x : Int) - lsum (fun lot => wts n x lot * ind (bits n lot) k) (lots n 1 3)) % 8 = 0)
theorem chk1_ok : ∀ n, n ≤ 5 → chk1 n = true := by decide +kernel
theorem chk1_at {n x k : Nat} (hn : n ≤ 5) (hx : x < 2 ^ n) (hk : k < 2 ^ n - 1) : ((par (k + 1) x : Int) - lsum (fun lot => wts n x lot * ind (bits n lot) k) (lots n 1 3)) % 8 = 0 := by
  have h := chk1_ok n hn
  have h1 := List.all_eq_true.mp h x (List.mem_range.mpr hx)
  have h2 := List.all_eq_true.mp h1 k (List.mem_range.mpr hk)
  exact of_decide_eq_true h2
theorem turn_lots {n x : Nat} {ms : List Int} (hn : n ≤ 5) (hl : ms.length = 2 ^ n - 1) (hx : x < 2 ^ n) :
    (dot (fun k => (par (k + 1) x : Int)) ms - lsum (fun lot => wts n x lot * asum (bits n lot) ms) (lots n 1 3)) % 8 = 0 := by
  have h := dot_mod8 (c := fun k => (par (k + 1) x : Int)) (d := fun k => lsum (fun lot => wts n x lot * ind (bits n lot) k) (lots n 1 3)) (ms := ms) fun k hk => chk1_at hn hx (by omega)
  rw [dot_lsum (fun lot k => wts n x lot * ind (bits n lot) k) ms (lots n 1 3)] at h
  have e : lsum (fun lot => dot (fun k => wts n x lot * ind (bits n lot) k) ms) (lots n 1 3) = lsum (fun lot => wts n x lot * asum (bits n lot) ms) (lots n 1 3) := by
    congr 1
    funext lot
    exact dot_smul _ _ _
  rw [e] at h
  exact h

theorem lsum_mod8 {α : Type} {f g : α → Int} : ∀ l : List α, (∀ a ∈ l, (f a - g a) % 8 = 0) → (lsum f l - lsum g l) % 8 = 0
  | [], _ => rfl
  | a :: r, h => by
    have h1 := h a List.mem_cons_self
    have h2 := lsum_mod8 r fun b hb => h b (List.mem_cons_of_mem _ hb)
    simp only [lsum]
    omega
theorem lots13_len : ∀ n, n ≤ 5 → ∀ lot ∈ lots n 1 3, lot.length = 1 ∨ lot.length = 2 ∨ lot.length = 3 := by decide +kernel
theorem wts_mod {n x : Nat} {lot : List Nat} {a b : Int} (hlen : lot.length = 1 ∨ lot.length = 2 ∨ lot.length = 3) (h : a % rmod lot = b % rmod lot) : (wts n x lot * a - wts n x lot * b) % 8 = 0 := by
  unfold wts
  split
  · rcases hlen with e | e | e
    · have e1 : rmod lot = 8 := by unfold rmod; rw [e]; rfl
      have e2 : sgn lot = 1 := by unfold sgn; rw [e]; rfl
      rw [e1] at h; rw [e2]; omega
    · have e1 : rmod lot = 4 := by unfold rmod; rw [e]; rfl
      have e2 : sgn lot = -2 := by unfold sgn; rw [e]; rfl
      rw [e1] at h; rw [e2]; omega
    · have e1 : rmod lot = 2 := by unfold rmod; rw [e]; rfl
      have e2 : sgn lot = 4 := by unfold sgn; rw [e]; rfl
      rw [e1] at h; rw [e2]; omega
  · rw [Int.zero_mul, Int.zero_mul]; rfl
/-- MARKS with the same sums turnM alike -/
theorem turn_of_rest {n x : Nat} {ms ns : List Int} (hn : n ≤ 5) (h1 : ms.length = 2 ^ n - 1) (h2 : ns.length = 2 ^ n - 1) (hx : x < 2 ^ n) (h : ∀ lot ∈ lots n 1 3, restM n ms lot = restM n ns lot) : turnM ms x = turnM ns x := by
  have a1 := turn_lots hn h1 hx
  have a2 := turn_lots hn h2 hx
  have a3 := lsum_mod8 (f := fun lot => wts n x lot * asum (bits n lot) ms) (g := fun lot => wts n x lot * asum (bits n lot) ns) (lots n 1 3) fun lot hm => wts_mod (lots13_len n hn lot hm) (h lot hm)
  unfold turnM
  omega
theorem turns_of_rest {n : Nat} {ms ns : List Int} (hn : n ≤ 5) (h1 : ms.length = 2 ^ n - 1) (h2 : ns.length = 2 ^ n - 1) (h : ∀ lot ∈ lots n 1 3, restM n ms lot = restM n ns lot) : turnsM ms = turnsM ns := by
  unfold turnsM
  rw [h1, h2]
  have hp : 0 < 2 ^ n := Nat.two_pow_pos n
  exact List.map_congr_left fun x hx => turn_of_rest hn h1 h2 (by have := List.mem_range.mp hx; omega) h

/-! ### from TURNS to sums -/
/-- the places within a set of wires, with their sign -/
def innerM (n : Nat) (lot : List Nat) : List (Nat × Int) :=
  (lots lot.length 0 lot.length).map fun js => (bits n (js.map fun j => lot.getD j 0), if (lot.length - js.length) % 2 = 0 then 1 else -1)
def chk2 (n : Nat) : Bool := (lots n 1 3).all fun lot => (List.range (2 ^ n - 1)).all fun k =>
  decide (lsum (fun (p : Nat × Int) => p.2 * (par (k + 1) p.1 : Int)) (innerM n lot) = sgn lot * ind (bits n lot) k)
theorem chk2_ok : ∀ n, n ≤ 5 → chk2 n = true := by decide +kernel
theorem inner_lots {n : Nat} {ms : List Int} {lot : List Nat} (hn : n ≤ 5) (hl : ms.length = 2 ^ n - 1) (hm : lot ∈ lots n 1 3) :
    lsum (fun (p : Nat × Int) => p.2 * dot (fun k => (par (k + 1) p.1 : Int)) ms) (innerM n lot) = sgn lot * asum (bits n lot) ms := by
  have h := List.all_eq_true.mp (chk2_ok n hn) lot hm
  have e : dot (fun k => lsum (fun (p : Nat × Int) => p.2 * (par (k + 1) p.1 : Int)) (innerM n lot)) ms = dot (fun k => sgn lot * ind (bits n lot) k) ms :=
    dot_congr fun k hk => of_decide_eq_true (List.all_eq_true.mp h k (List.mem_range.mpr (by omega)))
  rw [dot_lsum (fun (p : Nat × Int) k => p.2 * (par (k + 1) p.1 : Int)), dot_smul] at e
  rw [← show asum (bits n lot) ms = dot (ind (bits n lot)) ms from rfl] at e
  rw [← e]
  congr 1
  funext p
  exact (dot_smul _ _ _).symm
/-- how often the product of some wires is told in the polynomial of TURNS -/
def timesM (n : Nat) (ts : List Int) (lot : List Nat) : Int := lsum (fun (p : Nat × Int) => p.2 * ts.getD p.1 0) (innerM n lot) % 8
theorem innerM_lt : ∀ n, n ≤ 5 → ∀ lot ∈ lots n 1 3, ∀ p ∈ innerM n lot, p.1 < 2 ^ n ∧ (p.2 = 1 ∨ p.2 = -1) := by decide +kernel
theorem turns_at {ms : List Int} {x : Nat} (hx : x < ms.length + 1) : (turnsM ms).getD x 0 = turnM ms x := by
  unfold turnsM
  rw [List.getD_eq_getElem?_getD, List.getElem?_map, List.getElem?_range hx]
  rfl
theorem times_turns {n : Nat} {ms : List Int} {lot : List Nat} (hn : n ≤ 5) (hl : ms.length = 2 ^ n - 1) (hm : lot ∈ lots n 1 3) : timesM n (turnsM ms) lot = (sgn lot * asum (bits n lot) ms) % 8 := by
  have hp : 0 < 2 ^ n := Nat.two_pow_pos n
  rw [← inner_lots hn hl hm]
  unfold timesM
  have h := lsum_mod8 (f := fun (p : Nat × Int) => p.2 * (turnsM ms).getD p.1 0) (g := fun (p : Nat × Int) => p.2 * dot (fun k => (par (k + 1) p.1 : Int)) ms) (innerM n lot) fun p hp' => by
    obtain ⟨h1, h2⟩ := innerM_lt n hn lot hm p hp'
    rw [turns_at (by omega)]
    unfold turnM
    rcases h2 with e | e
    · rw [e]; omega
    · rw [e]; omega
  omega
theorem rest_of_turns {n : Nat} {ms ns : List Int} {lot : List Nat} (hn : n ≤ 5) (h1 : ms.length = 2 ^ n - 1) (h2 : ns.length = 2 ^ n - 1) (hm : lot ∈ lots n 1 3) (h : turnsM ms = turnsM ns) : restM n ms lot = restM n ns lot := by
  have a1 := times_turns hn h1 hm
  have a2 := times_turns hn h2 hm
  rw [h] at a1
  have a3 := a1.symm.trans a2
  unfold restM
  rcases lots13_len n hn lot hm with e | e | e
  · have e1 : rmod lot = 8 := by unfold rmod; rw [e]; rfl
    have e2 : sgn lot = 1 := by unfold sgn; rw [e]; rfl
    rw [e2] at a3; rw [e1]; omega
  · have e1 : rmod lot = 4 := by unfold rmod; rw [e]; rfl
    have e2 : sgn lot = -2 := by unfold sgn; rw [e]; rfl
    rw [e2] at a3; rw [e1]; omega
  · have e1 : rmod lot = 2 := by unfold rmod; rw [e]; rfl
    have e2 : sgn lot = 4 := by unfold sgn; rw [e]; rfl
    rw [e2] at a3; rw [e1]; omega
end E8
set_option Elab.async false
set_option linter.all false
set_option maxRecDepth 100000
/-! EB0: operators of counts, heaps, comprehensions over what stands. -/
namespace E8
open PySem L2

/-! ### ints that are counts -/
section
variable {X : Cx}
def rNN (f : Nat → Nat → Nat) : R2 := fun x y H Q => ∃ n m : Nat, x = .int (n : Int) ∧ y = .int (m : Int) ∧ Q (.int ((f n m : Nat) : Int)) H
theorem opNN {f : Nat → Nat → Nat} {g : Value → Value → Sem Value} {r : Int → Int → V} (h : OpR X g (rI0 r)) (e : ∀ n m : Nat, r (n : Int) (m : Int) = .int ((f n m : Nat) : Int)) : OpR X g (rNN f) := by
  intro pins s σ H x y v u Q I rx ry hq
  obtain ⟨n, m, ex, ey, q⟩ := hq
  exact h pins s σ H x y v u Q I rx ry ⟨_, _, ex, ey, by rw [e]; exact q⟩
theorem and_nn (n m : Nat) : V.int (Builtin.bitAnd (n : Int) (m : Int)) = .int ((n &&& m : Nat) : Int) := by
  have e := PyProof.Rows.bitAnd_pp (x := (n : Int)) (y := (m : Int)) (Int.natCast_nonneg n) (Int.natCast_nonneg m)
  rw [e, Int.toNat_natCast, Int.toNat_natCast]
theorem xor_nn (n m : Nat) : V.int (Builtin.bitXor (n : Int) (m : Int)) = .int ((n ^^^ m : Nat) : Int) := by
  have e := Bits.bitXor_pp (x := (n : Int)) (y := (m : Int)) (Int.natCast_nonneg n) (Int.natCast_nonneg m)
  rw [e, Int.toNat_natCast, Int.toNat_natCast]
theorem op_andC : OpR X (binaryOp .BitAnd) (rNN fun n m => n &&& m) := opNN L2.op_and and_nn
theorem op_xorC : OpR X (binaryOp .BitXor) (rNN fun n m => n ^^^ m) := opNN L2.op_xor xor_nn
theorem iop_xorC : OpR X (inplaceOp .BitXor) (rNN fun n m => n ^^^ m) := opNN L2.iop_xor xor_nn
/-- n >> k -/
theorem op_shrC : OpR X (binaryOp .RShift) (rNN fun n k => n / 2 ^ k) := by
  intro pins s σ H x y v u Q I rx ry hq
  obtain ⟨n, k, ex, ey, q⟩ := hq
  refine L2.op_shrN pins s σ H x y v u Q I rx ry ⟨_, k, ex, ey, ?_⟩
  have e : (n : Int) / 2 ^ k = ((n / 2 ^ k : Nat) : Int) := by
    rw [Int.natCast_ediv, Int.natCast_pow]; rfl
  rw [e]
  exact q
/-- n << k, n and k small -/
def rShl : R2 := fun x y H Q => ∃ n k : Nat, x = .int (n : Int) ∧ y = .int (k : Int) ∧ n < 1000 ∧ k < 1000 ∧ Q (.int ((n * 2 ^ k : Nat) : Int)) H
theorem op_shlC : OpR X (binaryOp .LShift) rShl := by
  intro pins s σ H x y v u Q I rx ry hq
  obtain ⟨n, k, ex, ey, h1, h2, q⟩ := hq
  refine L2.op_shl pins s σ H x y v u Q I rx ry ⟨_, _, ex, ey, ⟨by omega, by omega, ?_⟩, ?_⟩
  · have : (n : Int).natAbs = n := Int.natAbs_natCast n
    rw [this]
    exact Nat.lt_trans h1 (by decide)
  · have e : (n : Int) * 2 ^ (k : Int).toNat = ((n * 2 ^ k : Nat) : Int) := by
      rw [Int.toNat_natCast, Int.natCast_mul, Int.natCast_pow]; rfl
    exact (show Q (.int ((n : Int) * 2 ^ (k : Int).toNat)) H by rw [e]; exact q)
end

/-! ### heaps -/
theorem Same.tup {K : PySem.W.Frag} {H H' : Hp} {a : Addr} {xs : List V} (e : Same H H') (h : SqT K H a xs) : SqT K H' a xs := by
  rcases h with (h | ⟨o, h⟩) | h
  · exact .inl (.inl (e _ _ h))
  · exact .inl (.inr ⟨o, e _ _ h⟩)
  · exact .inr h
theorem Same.new {H : Hp} {p : Addr} {o : HO} (h : H p = none) : Same H (upd H p o) := fun a u e => by
  rw [upd_ne (ne_of_none e h)]
  exact e
/-- what H does not know may be changed behind it -/
theorem Same.mut {H H' : Hp} {p : Addr} {o : HO} (e : Same H H') (h : H p = none) : Same H (upd H' p o) := fun a u ha => by
  rw [upd_ne (ne_of_none ha h)]
  exact e a u ha
/-- all but t as it was -/
def Keep (t : Addr) (H H' : Hp) : Prop := ∀ b o, b ≠ t → H b = some o → H' b = some o
theorem Keep.refl (t : Addr) (H : Hp) : Keep t H H := fun _ _ _ h => h
theorem Keep.trans {t : Addr} {H H1 H2 : Hp} (a : Keep t H H1) (b : Keep t H1 H2) : Keep t H H2 := fun c o n h => b c o n (a c o n h)
theorem Keep.of {t : Addr} {H H' : Hp} (e : Same H H') : Keep t H H' := fun b o _ h => e b o h
theorem Keep.upd {t : Addr} {H : Hp} {o : HO} : Keep t H (upd H t o) := fun b u n h => by rw [upd_ne n]; exact h
theorem Keep.mut {t : Addr} {H H' : Hp} {p : Addr} {o : HO} (e : Keep t H H') (h : H p = none) : Keep t H (L2.upd H' p o) := fun a u n ha => by
  rw [upd_ne (ne_of_none ha h)]
  exact e a u n ha
theorem Keep.tup {K : PySem.W.Frag} {t : Addr} {H H' : Hp} {a : Addr} {xs : List V} (e : Keep t H H') (n : a ≠ t) (h : SqT K H a xs) : SqT K H' a xs := by
  rcases h with (h | ⟨o, h⟩) | h
  · exact .inl (.inl (e _ _ n h))
  · exact .inl (.inr ⟨o, e _ _ n h⟩)
  · exact .inr h
theorem Keep.seq {K : PySem.W.Frag} {t : Addr} {H H' : Hp} {a : Addr} {xs : List V} (e : Keep t H H') (n : a ≠ t) (h : SqL K H a xs) : SqL K H' a xs := by
  rcases h with (h | ⟨o, h⟩) | h
  · exact .inl (.inl (e _ _ n h))
  · exact .inl (.inr ⟨o, e _ _ n h⟩)
  · exact .inr h
theorem small16 {n : Nat} (h : n ≤ 100000) : n ≤ sizeLine := by rw [sizeLine_eq]; omega
theorem small16' {n : Nat} (h : n < 100000) : n < sizeLine := by rw [sizeLine_eq]; omega

/-! ### a comprehension whose elements change nothing that stands -/
section
variable {J : It} {n : Nat} {G : Hp → Prop} {Y : Nat → Hp → V → Hp → Prop}
/-- acc i: what has come by turn i; the element's reading is asked for any end that takes it -/
theorem lc_pure (w : Walk J n G Y) {g : TG} {tt : TT} {te : TE} {vs : List Nat} {σ : St} {H1 : Hp} {D : Addr} {Qd : Hp → Prop} (acc : Nat → List V) (hn : n ≤ 50000) (hD : H1 D = none) (a0 : acc 0 = [])
    (al : ∀ i, i < n → (acc i).length ≤ i) (hG : ∀ H, Same H1 H → G H)
    (hs : ∀ i x H H', i < n → Same H1 H → Y i H x H' → ∀ (yes : V → Hp → Prop) (no : Hp → Prop), (∀ y H4, Same H H4 → acc (i + 1) = acc i ++ [y] → yes y H4) → (∀ H3, Same H H3 → acc (i + 1) = acc i → no H3) →
      g x (wipe σ vs) H' fun σ2 H2 => wipe σ2 vs = wipe σ vs ∧ tt σ2 H2 fun b H3 => if b = true then te σ2 H3 yes else no H3)
    (hd : ∀ H, Same H1 H → H D = some (.lst (acc n)) → Qd H) :
    ∃ W : Nat → Nat → Hp → Prop, (∃ m, W 0 m (upd H1 D (.lst []))) ∧ ∀ i m H, W i m H →
      (J.stop i H ∧ Qd H) ∨ (J.go i H ∧ ∃ Nx : Hp → Prop, (∀ H', Nx H' → ∃ m', m' < m ∧ W (i + 1) m' H') ∧ ∀ x H', J.yld i H x H' → g x (wipe σ vs) H' fun σ2 H2 => wipe σ2 vs = wipe σ vs ∧ tt σ2 H2 fun b H3 =>
        if b = true then te σ2 H3 fun y H4 => ∃ acc, H4 D = some (.lst acc) ∧ acc.length < sizeLine ∧ Nx (upd H4 D (.lst (acc ++ [y]))) else Nx H3) := by
  refine lc_it w (fun i H => Same H1 H ∧ H D = some (.lst (acc i))) ⟨Same.new hD, by rw [a0]; exact upd_same⟩ (fun i H _ p => hG H p.1) (fun i x H H' hi p y => ?_) (fun H p => hd H p.1 p.2)
  obtain ⟨p1, p2⟩ := p
  refine hs i x H H' hi p1 y _ _ (fun y H4 s4 ea => ?_) fun H3 s3 ea => ?_
  · refine ⟨acc i, s4 _ _ p2, small16' (Nat.lt_of_le_of_lt (al i hi) (Nat.lt_of_lt_of_le hi (Nat.le_trans hn (by decide)))), Same.mut (Same.trans p1 s4) hD, ?_⟩
    rw [ea]
    exact upd_same
  · exact ⟨p1.trans s3, by rw [ea]; exact s3 _ _ p2⟩
end
end E8
set_option Elab.async false
set_option linter.all false
set_option maxRecDepth 100000
/-! EB1: enumerate(tuple). -/
namespace E8
open PySem PySem.Spec PyProof.Rows L2

abbrev tItObj (l : Addr) : Obj := { cls := .type "tuple_iterator", data := .fields #[.ref l, .int 0 0] }
abbrev enObj (it : Addr) : Obj := { cls := .type "enumerate", data := .fields #[.none, .bool false, .ref it, rawInt 0, .none, .none] }
set_option maxHeartbeats 1000000 in
theorem enT_new (l : Addr) (items : Array Value) : Meets (Builtin.«enumerate.__new__» ⟨[.type "enumerate", .ref l], []⟩)
    (fun _ R s => s.heap.IsTuple l items ∧ R (.ok (.ret (.ref (s.heap.push (tItObj l)).objs.size))) { s with heap := (s.heap.push (tItObj l)).push (enObj s.heap.objs.size) }) :=
  .of_wp fun prog w A R s hq => by
    obtain ⟨hp, g, d, tk, os⟩ := s
    obtain ⟨hT, hr⟩ := hq
    have hsub := PySem.sub_enumerate
    have hI : ∀ {A' : Around} {E Q : Value → Shared → Prop}, Q (.ref hp.objs.size) ⟨hp.push (tItObj l), g, d, tk, os⟩ → wpAny (model prog w) A' (pyIter (.ref l)) Q E ⟨hp, g, d, tk, os⟩ :=
      fun q => (begins_tuple l items).iter prog w _ _ ⟨hp, g, d, tk, os⟩ _ hT q
    wp_walk using hI
    refine wpAny_stack_any fun st => wpAny_pure ?_
    split
    · rename_i c _ _ _ _ _
      cases (c == Value.type "enumerate") <;> (wp_walk using hI; exact ⟨_, rfl, hr⟩)
    · wp_walk using hI; exact ⟨_, rfl, hr⟩
section
variable {prog : Program} {w : World} {A : Around} {E : Value → Shared → Prop} {s : Shared}
theorem enT_call {l : Addr} {items : Array Value} {Q : Value → Shared → Prop} (hT : s.heap.IsTuple l items)
    (h : ∀ h', IsEnum h' (s.heap.objs.size + 1) s.heap.objs.size 0 .none → h'.IsTupleIter s.heap.objs.size l 0 →
      (∀ b o, s.heap.get? b = some o → h'.get? b = some o) → Q (.ref (s.heap.objs.size + 1)) { s with heap := h' }) :
    wpAny (model prog w) A (call (.type "enumerate") [.ref l]) Q E s := by
  refine callType_new F.called_enumerate (by decide) (F.typeCall_enumerate_1 _) (F.newCall_enumerate_1 _) (fun obj => F.args_object_init_2 obj _) F.entry_enumerate_new (enT_new l items) ⟨hT, ?_⟩
  have hz : (s.heap.push (tItObj l)).objs.size = s.heap.objs.size + 1 := Heap.size_push ..
  show _ ∧ _
  rw [hz]
  have he := Heap.get?_push_size (s.heap.push (tItObj l)) (o := enObj s.heap.objs.size) rfl
  rw [hz] at he
  exact ⟨⟨_, he, rfl⟩, h _ he ⟨_, Heap.get?_push_of_some _ (Heap.get?_push_size _ rfl), rfl, rfl⟩ fun b o x => Heap.get?_push_of_some _ (Heap.get?_push_of_some _ x)⟩
end

/-- the tuple at a, each item in a new pair with its number -/
def IteT (K : PySem.W.Frag) (a : Addr) (xs : List V) : It :=
  ⟨fun i H => i < xs.length ∧ SqT K H a xs, fun i H v H' => ∃ T x, v = .ref T ∧ H T = none ∧ H' = upd H T (.tup [.int ((i : Nat) : Int), x]) ∧ xs[i]? = some x, fun i H => SqT K H a xs ∧ i = xs.length⟩
theorem mem2 {b e it : Addr} (h : b ∈ [e, it]) : b = e ∨ b = it := by simpa using h
theorem turn_enumT {P : Program} {w : World} {K : PySem.W.Frag} {elts : List Expr} {kk : Nat} {tpos : Pos} (a e it : Addr) (xs : List V) (hea : a ≠ e) (hia : a ≠ it) :
    Turn P w K (.Tuple elts kk tpos) (IteT K a xs) [e, it] e (fun i h => (∃ old, IsEnum h e it ((i : Nat) : Int) old) ∧ h.IsTupleIter it a i ∧ e ≠ it) where
  mem := List.mem_cons_self
  obj := fun i h ⟨⟨old, he⟩, ⟨o, ho, hc, hd⟩, _⟩ b hb => by
    rcases mem2 hb with z | z <;> subst z
    · exact ⟨_, he, fun v q => nomatch q⟩
    · exact ⟨o, ho, fun v q => by rw [hd] at q; cases q⟩
  keep := fun i h h' ⟨⟨old, he⟩, hi, hne⟩ k => ⟨⟨old, k e (by simp) _ he⟩, hi.at fun o q => k it (by simp) o q, hne⟩
  item := fun X hP hw hK hc i pins s σ H E I hf ⟨⟨old, he⟩, hit, hne⟩ ⟨hlt, hq⟩ => by
    subst hP hw hK
    obtain ⟨its, rv, p, hz⟩ := I.tuple hq
    have hx : xs[i]? = some xs[i] := List.getElem?_eq_getElem hlt
    have hn : its.toArray.size = xs.length := by rw [List.size_toArray]; exact rv.length.symm
    have hel : e < s.heap.objs.size := Heap.lt_size he
    have hil : it < s.heap.objs.size := let ⟨_, q, _⟩ := hit; Heap.lt_size q
    refine wpAny_pyNext_enum_itemD (Draws.tuple (A := X.A.in1) (I.ok.hd hc) it a hia its.toArray) he ⟨hit, p⟩ (by omega) hne (fun z => (mem2 z).elim hne (fun q => hea q.symm)) fun x h' tk hP he' st' hT hsz hk => ?_
    obtain ⟨u, hu, ru⟩ := rv.get hx
    have ex : x = u := by
      rw [List.getElem?_toArray, hu] at hP
      exact (Option.some.inj hP).symm
    subst ex
    refine ⟨_, rfl, wpAny_letOwnedTupleGo_enum (s := { s with heap := h', toks := tk + 1 }) he' fun h2 he2 sb => ?_⟩
    have hT2 := (sb.2 _ (Nat.ne_of_gt hel)).trans hT
    have new : ObjOk X.prog X.w (upd H s.heap.objs.size (.tup [.int ((i : Nat) : Int), xs[i]])) h2 s.heap.objs.size (.tup [.int ((i : Nat) : Int), xs[i]]) :=
      ⟨by show 2 ≤ sizeLine; decide, [.int i tk, x], .cons ⟨_, rfl⟩ (.cons ru .nil), ⟨_, hT2, rfl, _, rfl⟩⟩
    have off : ∀ {b : Addr}, b ∉ [e, it] → b ≠ e ∧ b ≠ it := fun hb => ⟨fun z => hb (by simp [z]), fun z => hb (by simp [z])⟩
    have J : Inv X pins σ (upd H s.heap.objs.size (.tup [.int ((i : Nat) : Int), xs[i]])) { s with heap := h2, toks := tk + 1 } :=
      I.turnedNew (ch := [e, it]) (fun b ob hb q => (sb.2 b (off hb).1).trans (hk b ob (off hb).1 (off hb).2 q)) hf (Nat.le_refl _) new
    refine ⟨.ref s.heap.objs.size, _, J, rfl, ⟨_, _, rfl, I.hok.fresh (Nat.le_refl _), rfl, hx⟩, ⟨⟨x, ?_⟩, st'.1.at fun o q => (sb.2 it hne.symm).trans q, hne⟩, fun b hb => ?_⟩
    · rw [show ((i + 1 : Nat) : Int) = (i : Int) + 1 by omega]
      exact he2
    · have hb' : b < s.heap.objs.size := (mem2 hb).elim (fun z => z ▸ hel) fun z => z ▸ hil
      rw [upd_ne (Nat.ne_of_lt hb')]
      exact (hf b hb).1
  done := fun X hP hw hK hc i pins s σ H E I hf ⟨⟨old, he⟩, hit, hne⟩ ⟨hq, hle⟩ => by
    subst hP hw hK
    obtain ⟨its, rv, p, hz⟩ := I.tuple hq
    have hl := rv.length
    obtain ⟨f0, f1, f2, f3, f4, f5⟩ := hf it (by simp)
    have hn : its.toArray.size = i := by rw [List.size_toArray, hle]; exact hl.symm
    have D := Draws.tuple (prog := X.prog) (w := X.w) (A := X.A.in1) (I.ok.hd hc) it a hia its.toArray
    rw [hn] at D
    exact wpAny_pyNext_enum_endD D he ⟨hit, p⟩ fun h' eb => ⟨rfl, I.turned (t' := s.toks) (fun b o hb q => eb b o hb q) f0 f1 f3 f4 f5⟩
  self := fun A i s Q E ⟨⟨_, he⟩, _⟩ h => wpAny_pyIter_enum he h
def iEnumT (K : PySem.W.Frag) (ta : TA) : TI := fun σ H R => ta σ H fun vs H1 => ∃ a xs, vs = [.ref a] ∧ SqT K H1 a xs ∧ R (IteT K a xs) H1
theorem pi_enumT {X : Cx} {e : Expr} {ta : TA} {p pos tpos : Pos} {elts : List Expr} {kk : Nat} (hg : Gl X "enumerate") (hm : X.mg "enumerate" = none) (ha : PA X [e] ta) (hs : starEach [e] X.env = [(false, eval e X.env)] := by rfl) :
    PI X (.Tuple elts kk tpos) (.Call (.Name "enumerate" p) [e] [] pos) (iEnumT X.K ta) := by
  refine ⟨fun pins s σ H R I hq => ?_⟩
  refine Call_ (ld_blt I hg hm boot_enumerate (PyProof.Rows.callWith_type1 (thn (ha.run pos pins s σ H _ I hq) fun us s1 ⟨vs, H1, I1, r1, q1⟩ => ?_) hs rfl))
  obtain ⟨a, xs, ex, hT, q⟩ := q1
  subst ex
  cases r1 with
  | cons r rr =>
    cases rr
    cases r
    obtain ⟨its, rv, p', hz⟩ := I1.tuple hT
    obtain ⟨oT, hoT, _⟩ := id p'
    have la : a < s1.heap.objs.size := Heap.lt_size hoT
    refine enT_call (show s1.heap.IsTuple a its.toArray from p') fun h' he hit hk => wpAny_pyIter_enum he ?_
    have I2 : Inv X pins σ H1 { s1 with heap := h' } := I1.kept (t' := s1.toks) hk
    refine ⟨s1.heap.objs.size + 1, [s1.heap.objs.size + 1, s1.heap.objs.size], _, _, H1, rfl, I2, turn_enumT a (s1.heap.objs.size + 1) s1.heap.objs.size xs (Nat.ne_of_lt (Nat.lt_succ_of_lt la)) (Nat.ne_of_lt la), ⟨⟨.none, he⟩, hit, Nat.succ_ne_self _⟩, fun b hb => ?_, q⟩
    have hle : s1.heap.objs.size ≤ b := (mem2 hb).elim (fun z => by rw [z]; exact Nat.le_add_right _ _) fun z => Nat.le_of_eq z.symm
    exact I1.fpOk hle (I1.hok.fresh hle)
theorem walk_enumT {K : PySem.W.Frag} {a : Addr} {xs : List V} : Walk (IteT K a xs) xs.length (fun H => SqT K H a xs) (YPair (fun i => some (.int (i : Nat))) (fun i => xs[i]?)) :=
  ⟨fun i _ hi q => ⟨hi, q⟩, fun _ q => ⟨q, rfl⟩, fun i H v H' _ q ⟨T, x, h1, h2, h3, h4⟩ => ⟨T, .int (i : Nat), x, h1, h2, h3, rfl, h4⟩⟩
end E8
set_option Elab.async false
set_option linter.all false
set_option maxRecDepth 100000
set_option maxHeartbeats 2000000
/-! EB2: list(combinations(range(n), k)) at the library's level. -/
namespace E8C
open PySem PySem.Spec PyProof.Rows
abbrev CB : String := "itertools.combinations"
theorem cb_mro : mroOf (.type "itertools.combinations") = pure [.type "itertools.combinations", .type "object"] := by rw [mroOf_type]; kernel_rfl
theorem cb_new : typeLookup (.type "itertools.combinations") "__new__" = pure (some (.builtin "itertools.combinations.__new__")) := by rw [typeLookup_type, builtinLookup_eq_fast]; kernel_rfl
theorem cb_sub : isSubtype (.type "itertools.combinations") (.type "itertools.combinations") = pure true := by rw [isSubtype_type]; kernel_rfl
theorem cb_init : Slot "itertools.combinations" "__init__" "object.__init__" :=
  .of (owner := "object") (n := "__init__") (by rw [typeLookup_type, builtinLookup_eq_fast]; kernel_rfl) (by decide +kernel) (by decide +kernel) (by decide +kernel) (by first | exact .inl (by decide +kernel) | exact .inr (by decide +kernel)) (by rw [isSubtype_type]; kernel_rfl)
theorem cb_called : TypeCalled "itertools.combinations" "itertools.combinations.__new__" "object.__init__" :=
  ⟨by decide +kernel, by decide +kernel, ⟨_, _, cb_mro⟩, madeBy_type cb_mro cb_new (by decide +kernel), by decide +kernel, cb_sub, cb_init⟩
theorem cb_typeCall (a b : Value) : checkTypeCall "itertools.combinations" ⟨[a, b], []⟩ = pure () := by kernel_rfl
theorem cb_newCall (a b : Value) : checkBuiltinCall "itertools.combinations.__new__" ⟨[.type "itertools.combinations", a, b], []⟩ = pure () := by kernel_rfl
theorem cb_entry_new : entryFor table "itertools.combinations.__new__" = some Builtin.«itertools.combinations.__new__» := entryFor_of_tree (by kernel_rfl)
theorem cb_iter : Slot "itertools.combinations" "__iter__" "itertools.combinations.__iter__" :=
  .of (owner := "itertools.combinations") (n := "__iter__") (by rw [typeLookup_type, builtinLookup_eq_fast]; kernel_rfl) (by decide +kernel) (by decide +kernel) (by decide +kernel) (by first | exact .inl (by decide +kernel) | exact .inr (by decide +kernel)) cb_sub
theorem cb_next : Slot "itertools.combinations" "__next__" "itertools.combinations.__next__" :=
  .of (owner := "itertools.combinations") (n := "__next__") (by rw [typeLookup_type, builtinLookup_eq_fast]; kernel_rfl) (by decide +kernel) (by decide +kernel) (by decide +kernel) (by first | exact .inl (by decide +kernel) | exact .inr (by decide +kernel)) cb_sub
theorem cb_entry_iter : entryFor table "itertools.combinations.__iter__" = some Builtin.«dict_keyiterator.__iter__» :=
  entryFor_alias (id' := "dict_keyiterator.__iter__") (by kernel_rfl) (by first | rfl | decide +kernel | (unfold String.splitOn; simp +decide [String.splitOnAux])) (by decide +kernel) (by kernel_rfl)
theorem cb_entry_next : entryFor table "itertools.combinations.__next__" = some Builtin.«itertools.combinations.__next__» := entryFor_of_tree (by kernel_rfl)
theorem cb_owner : Manifest.owners.lookup (String.ofList ['s', 'n', 'o', 'i', 't', 'a', 'n', 'i', 'b', 'm', 'o', 'c', '.', 's', 'l', 'o', 'o', 't', 'r', 'e', 't', 'i'].reverse) = some Manifest.sig_itertools_combinations := by kernel_rfl
theorem cb_args_iter (a : Value) : argsOk "itertools.combinations.__iter__" ⟨[a], []⟩ := by
  unfold argsOk; rw [signature?_of (id := "itertools.combinations.__iter__") (n := ['_', '_', 'r', 'e', 't', 'i', '_', '_']) (o := ['s', 'n', 'o', 'i', 't', 'a', 'n', 'i', 'b', 'm', 'o', 'c', '.', 's', 'l', 'o', 'o', 't', 'r', 'e', 't', 'i']) (by kernel_rfl) cb_owner]; kernel_rfl
theorem cb_args_next (a : Value) : argsOk "itertools.combinations.__next__" ⟨[a], []⟩ := by
  unfold argsOk; rw [signature?_of (id := "itertools.combinations.__next__") (n := ['_', '_', 't', 'x', 'e', 'n', '_', '_']) (o := ['s', 'n', 'o', 'i', 't', 'a', 'n', 'i', 'b', 'm', 'o', 'c', '.', 's', 'l', 'o', 'o', 't', 'r', 'e', 't', 'i']) (by kernel_rfl) cb_owner]; kernel_rfl
theorem cb_noDict : typeHasDict (.type "itertools.combinations") = false := by decide +kernel
theorem cb_nolen : typeLookup (.type "itertools.combinations") "__len__" = pure none := by rw [typeLookup_type, builtinLookup_eq_fast]; kernel_rfl
theorem cb_nohint : typeLookup (.type "itertools.combinations") "__length_hint__" = pure none := by rw [typeLookup_type, builtinLookup_eq_fast]; kernel_rfl

/-- the fields behind the three first -/
def ixV (c : List Nat) : List Value := c.map fun (i : Nat) => rawInt i
def cbFields (P : Addr) (st : Int) (last : Value) (c : List Nat) : Array Value := ([.ref P, rawInt st, last] ++ ixV c).toArray
abbrev IsCB (h : Heap) (I P : Addr) (st : Int) (last : Value) (c : List Nat) : Prop := h.get? I = some { cls := .type "itertools.combinations", dict := none, data := .fields (cbFields P st last c), slots := #[] }
end E8C
set_option Elab.async false
set_option linter.all false
set_option maxRecDepth 100000
set_option maxHeartbeats 2000000
/-! EB4: combinations drawn. -/
namespace E8C
open PySem PySem.Spec PyProof.Rows
/-- the places that follow -/
def nextC (n : Nat) (c : List Nat) : Option (List Nat) :=
  match (List.range c.length).reverse.find? (fun i => c.getD i 0 != i + n - c.length) with
  | none => none
  | some i => some (c.take i ++ (List.range (c.length - i)).map (c.getD i 0 + 1 + ·))
theorem ixV_back (P : Addr) (st : Int) (last : Value) (c : List Nat) : ((cbFields P st last c).toList.drop 3).map (fun v => match v with | .int n _ => n.toNat | _ => 0) = c := by
  show (ixV c).map _ = c
  unfold ixV
  rw [List.map_map]
  have : (fun v => match v with | Value.int n _ => n.toNat | _ => 0) ∘ (fun (i : Nat) => rawInt (i : Int)) = id := by
    funext i
    exact Int.toNat_natCast i
  rw [this, List.map_id]
section
variable {prog : Program} {w : World} {A : Around} {E : Value → Shared → Prop} {s : Shared} {I P : Addr} {items : Array Value} {last : Value} {c d : List Nat}
theorem cb_numbers {Q : List Nat → Shared → Prop} {st : Int} (h : IsCB s.heap I P st last c) (hQ : Q c s) : wpAny (model prog w) A (Builtin.Itertools.itNumbersFrom (.ref I) 3) Q E s := by
  unfold Builtin.Itertools.itNumbersFrom
  refine wpAny_bind (wpAny_load h ?_)
  dsimp only
  refine wpAny_pure ?_
  exact Eq.mpr (congrArg (fun l => Q l s) (ixV_back P st last c)) hQ
theorem cbF_1 (P : Addr) (st st' : Int) (last : Value) (c : List Nat) : (cbFields P st last c).setIfInBounds 1 (rawInt st') = cbFields P st' last c := by
  unfold cbFields
  rw [List.setIfInBounds_toArray]
  rfl
theorem cbF_2 (P : Addr) (st : Int) (last last' : Value) (c : List Nat) : (cbFields P st last c).setIfInBounds 2 last' = cbFields P st last' c := by
  unfold cbFields
  rw [List.setIfInBounds_toArray]
  rfl
theorem cbF_3 (P : Addr) (st : Int) (last : Value) (c d : List Nat) : (cbFields P st last c).extract 0 3 ++ (d.map fun (n : Nat) => rawInt n).toArray = cbFields P st last d := by
  apply Array.ext'
  rw [Array.toList_append, Array.toList_extract]
  rfl
theorem cb_size (P : Addr) (st : Int) (last : Value) (c : List Nat) : (cbFields P st last c).size = c.length + 3 := by
  unfold cbFields ixV
  rw [List.size_toArray, List.length_append, List.length_map]
  exact Nat.add_comm _ _
/-- the tuple of these places is made and noted -/
theorem cb_out {α : Type} {K : Value → Sem α} {Q : α → Shared → Prop} (h : IsCB s.heap I P 1 last d) (hP : s.heap.IsTuple P items) (hd : d.length ≤ 1000)
    (hQ : ∀ h', IsCB h' I P 1 (.ref s.heap.objs.size) d → h'.get? s.heap.objs.size = some { cls := .type "tuple", data := .seq (d.map fun i => items.getD i .none).toArray } →
      (∀ b o, b ≠ I → s.heap.get? b = some o → h'.get? b = some o) → wpAny (model prog w) A (K (.ref s.heap.objs.size)) Q E { s with heap := h' }) :
    wpAny (model prog w) A (do
      let result ← (do let items ← Builtin.Itertools.itPoolItems (.ref P); newTuple (d.map fun i => items.getD i .none))
      let before ← field (.ref I) 2
      setField (.ref I) 2 result
      letGo [before] [result]
      K result) Q E s := by
  obtain ⟨oT, hoT, hcT, nT, hdT⟩ := id hP
  refine wpAny_bind (wpAny_bind ?_)
  unfold Builtin.Itertools.itPoolItems
  refine wpAny_bind (wpAny_seqItems hoT hdT ?_)
  dsimp only
  refine wpAny_pure ?_
  refine wpAny_newTuple ?_ (by rw [List.length_map, sizeLine_eq]; omega)
  have h1 : IsCB (s.heap.push { cls := .type "tuple", data := .seq (d.map fun i => items.getD i .none).toArray }) I P 1 last d := Heap.get?_push_of_some _ h
  refine wpAny_bind (wpAny_field h1 rfl (x := last) rfl ?_)
  refine wpAny_bind (wpAny_setField h1 rfl (by rw [cb_size]; omega) ?_)
  refine wpAny_bind (wpAny_letGo ?_)
  have hI : I < s.heap.objs.size := Heap.lt_size h
  refine hQ _ ?_ ?_ ?_
  · have e := Heap.get?_update_self (Obj.mapFields fun x => x.setIfInBounds 2 (Value.ref s.heap.objs.size)) h1 rfl
    show _ = some _
    rw [← cbF_2 P 1 last (.ref s.heap.objs.size) d]
    exact e
  · exact (Heap.get?_update_other _ _ (Nat.ne_of_lt hI)).trans (Heap.get?_push_size _ rfl)
  · exact fun b o hb q => (Heap.get?_update_other _ _ (Ne.symm hb)).trans (Heap.get?_push_of_some _ q)
theorem cb_start {Q : Option Value → Shared → Prop} (h : IsCB s.heap I P 0 last c) (hP : s.heap.IsTuple P items) (hPI : P ≠ I) (hc : c.length ≤ 1000)
    (hQ : ∀ h', IsCB h' I P 1 (.ref s.heap.objs.size) c → h'.get? s.heap.objs.size = some { cls := .type "tuple", data := .seq (c.map fun i => items.getD i .none).toArray } →
      (∀ b o, b ≠ I → s.heap.get? b = some o → h'.get? b = some o) → Q (some (.ref s.heap.objs.size)) { s with heap := h' }) :
    wpAny (model prog w) A (pyNext (.ref I)) Q E s := by
  have hT : s.TypeIs (.ref I) "itertools.combinations" := ⟨_, h, rfl⟩
  unfold pyNext
  refine wpAny_bind (wpAny_attempt (wpAny_callSpecial?_slot (name := Str.ofString "__next__") hT cb_next (wpAny_call_entry cb_next hT cb_entry_next ?_ (cb_args_next _))))
  show wpAny _ _ (field (.ref I) 0 >>= _) _ _ s
  refine wpAny_bind (wpAny_field h rfl (x := .ref P) rfl ?_)
  refine wpAny_bind (cb_numbers h ?_)
  show wpAny _ _ ((field (.ref I) 1 >>= _) >>= _) _ _ s
  refine wpAny_bind (wpAny_bind (wpAny_field h rfl (x := rawInt 0) rfl (wpAny_pure ?_)))
  dsimp only
  refine wpAny_bind (wpAny_setField h rfl (by rw [cb_size]; omega) ?_)
  have h1 : IsCB (s.heap.update I (Obj.mapFields fun x => x.setIfInBounds 1 (rawInt 1))) I P 1 last c := by
    have e := Heap.get?_update_self (Obj.mapFields fun x => x.setIfInBounds 1 (rawInt 1)) h rfl
    show _ = some _
    rw [← cbF_1 P 0 1 last c]
    exact e
  have hz : (s.heap.update I (Obj.mapFields fun x => x.setIfInBounds 1 (rawInt 1))).objs.size = s.heap.objs.size := Heap.size_update ..
  have h2 : (s.heap.update I (Obj.mapFields fun x => x.setIfInBounds 1 (rawInt 1))).IsTuple P items := hP.at fun o q => (Heap.get?_update_other _ _ (Ne.symm hPI)).trans q
  refine cb_out (s := { s with heap := s.heap.update I (Obj.mapFields fun x => x.setIfInBounds 1 (rawInt 1)) }) h1 h2 hc fun h' a1 a2 a3 => ?_
  dsimp only at a1 a2 a3 ⊢
  rw [hz] at a1 a2 ⊢
  exact wpAny_pure ⟨_, rfl, wpAny_pure (hQ h' a1 a2 fun b o hb q => a3 b o hb ((Heap.get?_update_other _ _ (Ne.symm hb)).trans q))⟩
end
end E8C
set_option Elab.async false
set_option linter.all false
set_option maxRecDepth 100000
set_option maxHeartbeats 2000000
/-! EB5: combinations drawn to their end; the list of them. -/
namespace E8C
open PySem PySem.Spec PyProof.Rows
section
variable {prog : Program} {w : World} {A : Around} {E : Value → Shared → Prop} {s : Shared} {I P : Addr} {items : Array Value} {last : Value} {c d : List Nat}
theorem cb_more {Q : Option Value → Shared → Prop} (h : IsCB s.heap I P 1 last c) (hP : s.heap.IsTuple P items) (hPI : P ≠ I) (hd : d.length ≤ 1000) (hn : nextC items.size c = some d)
    (hQ : ∀ h', IsCB h' I P 1 (.ref s.heap.objs.size) d → h'.get? s.heap.objs.size = some { cls := .type "tuple", data := .seq (d.map fun i => items.getD i .none).toArray } →
      (∀ b o, b ≠ I → s.heap.get? b = some o → h'.get? b = some o) → Q (some (.ref s.heap.objs.size)) { s with heap := h' }) :
    wpAny (model prog w) A (pyNext (.ref I)) Q E s := by
  have hT : s.TypeIs (.ref I) "itertools.combinations" := ⟨_, h, rfl⟩
  obtain ⟨oT, hoT, hcT, nT, hdT⟩ := id hP
  unfold pyNext
  refine wpAny_bind (wpAny_attempt (wpAny_callSpecial?_slot (name := Str.ofString "__next__") hT cb_next (wpAny_call_entry cb_next hT cb_entry_next ?_ (cb_args_next _))))
  show wpAny _ _ (field (.ref I) 0 >>= _) _ _ s
  refine wpAny_bind (wpAny_field h rfl (x := .ref P) rfl ?_)
  refine wpAny_bind (cb_numbers h ?_)
  show wpAny _ _ ((field (.ref I) 1 >>= _) >>= _) _ _ s
  refine wpAny_bind (wpAny_bind (wpAny_field h rfl (x := rawInt 1) rfl (wpAny_pure ?_)))
  dsimp only
  refine wpAny_bind ?_
  unfold Builtin.Itertools.itPoolItems
  refine wpAny_bind (wpAny_seqItems hoT hdT ?_)
  dsimp only
  refine wpAny_pure ?_
  split
  case h_2 heq => exact absurd ((show nextC items.size c = none from heq).symm.trans hn) (by simp)
  case h_1 nx heq =>
    have e : nx = d := Option.some.inj ((show nextC items.size c = some nx from heq).symm.trans hn)
    subst e
    unfold Builtin.Itertools.itSetNumbersFrom
    refine wpAny_bind (wpAny_updateFields h rfl ?_ (by rw [show _ ++ _ = _ from cbF_3 P 1 last c nx, cb_size, sizeLine_eq]; omega))
    have h1 : IsCB (s.heap.update I (Obj.mapFields fun fs => fs.extract 0 3 ++ (nx.map fun (n : Nat) => rawInt n).toArray)) I P 1 last nx := by
      have e := Heap.get?_update_self (Obj.mapFields fun fs => fs.extract 0 3 ++ (nx.map fun (n : Nat) => rawInt n).toArray) h rfl
      show _ = some _
      rw [← cbF_3 P 1 last c nx]
      exact e
    have hz : (s.heap.update I (Obj.mapFields fun fs => fs.extract 0 3 ++ (nx.map fun (n : Nat) => rawInt n).toArray)).objs.size = s.heap.objs.size := Heap.size_update ..
    have h2 : (s.heap.update I (Obj.mapFields fun fs => fs.extract 0 3 ++ (nx.map fun (n : Nat) => rawInt n).toArray)).IsTuple P items := hP.at fun o q => (Heap.get?_update_other _ _ (Ne.symm hPI)).trans q
    refine cb_out (s := { s with heap := s.heap.update I (Obj.mapFields fun fs => fs.extract 0 3 ++ (nx.map fun (n : Nat) => rawInt n).toArray) }) h1 h2 hd fun h' a1 a2 a3 => ?_
    dsimp only at a1 a2 a3 ⊢
    rw [hz] at a1 a2 ⊢
    exact wpAny_pure ⟨_, rfl, wpAny_pure (hQ h' a1 a2 fun b o hb q => a3 b o hb ((Heap.get?_update_other _ _ (Ne.symm hb)).trans q))⟩
/-- the stop's own exception is made and caught -/
theorem cb_stop {Q : Option Value → Shared → Prop} (hh : A.handled = none) (hQ : ∀ h', (∀ b o, b ≠ I → s.heap.get? b = some o → h'.get? b = some o) → Q none { s with heap := h' }) :
    wpAny (model prog w) A.in1 (Builtin.Itertools.itStop (α := Fin)) (fun fin s' => ∃ v, fin = Fin.done (Flow.ret v) ∧ wpAny (model prog w) A (pure (some v)) Q E s')
      (fun e s' => wpAny (model prog w) A (do let d ← isInstance e (.type "StopIteration"); if d = true then pure none else throw e) Q E s') s := by
  unfold Builtin.Itertools.itStop
  show wpAny _ _ (newExc (.type "StopIteration") [] >>= _) _ _ _
  refine wpAny_bind ?_
  simp only [newExc, newTuple]
  refine wpAny_bind (wpAny_newObj_type ?_ (by size_fits))
  refine wpAny_bind (m := firstArgMember _ _) (wpAny_of_eq (a := Value.none) (by first | rfl | (simp only [firstArgMember]; rfl)) ?_)
  refine wpAny_newObj_type ?_ (by size_fits)
  simp only [raiseNew]
  refine wpAny_bind (wpAny_bind (wpAny_handled ?_))
  first | rw [show A.in1.handled = none from hh] | rw [hh]
  refine wpAny_pure (wpAny_throw ?_)
  refine wpAny_bind (wpAny_isInstance (T := "StopIteration") (b := true) ⟨_, Heap.get?_push_size _ rfl, rfl⟩ isSubtype_stop ?_)
  exact wpAny_pure (hQ _ fun b o _ q => Heap.get?_push_of_some _ (Heap.get?_push_of_some _ q))
theorem cb_end {st : Int} {Q : Option Value → Shared → Prop} (hh : A.handled = none) (h : IsCB s.heap I P st last c) (hP : s.heap.IsTuple P items) (he : st = 2 ∨ (st = 1 ∧ nextC items.size c = none))
    (hQ : ∀ h', (∀ b o, b ≠ I → s.heap.get? b = some o → h'.get? b = some o) → Q none { s with heap := h' }) : wpAny (model prog w) A (pyNext (.ref I)) Q E s := by
  have hT : s.TypeIs (.ref I) "itertools.combinations" := ⟨_, h, rfl⟩
  obtain ⟨oT, hoT, hcT, nT, hdT⟩ := id hP
  unfold pyNext
  refine wpAny_bind (wpAny_attempt (wpAny_callSpecial?_slot (name := Str.ofString "__next__") hT cb_next (wpAny_call_entry cb_next hT cb_entry_next ?_ (cb_args_next _))))
  show wpAny _ _ (field (.ref I) 0 >>= _) _ _ s
  refine wpAny_bind (wpAny_field h rfl (x := .ref P) rfl ?_)
  refine wpAny_bind (cb_numbers h ?_)
  show wpAny _ _ ((field (.ref I) 1 >>= _) >>= _) _ _ s
  refine wpAny_bind (wpAny_bind (wpAny_field h rfl (x := rawInt st) rfl (wpAny_pure ?_)))
  rcases he with e | ⟨e, hn⟩
  · subst e
    dsimp only
    refine wpAny_bind (wpAny_rule ?_)
    exact cb_stop hh hQ
  · subst e
    dsimp only
    refine wpAny_bind ?_
    unfold Builtin.Itertools.itPoolItems
    refine wpAny_bind (wpAny_seqItems hoT hdT ?_)
    dsimp only
    refine wpAny_pure ?_
    split
    case h_1 nx heq => exact absurd ((show nextC items.size c = some nx from heq).symm.trans hn) (by simp)
    case h_2 heq =>
      refine wpAny_bind (wpAny_setField h rfl (by rw [cb_size]; omega) ?_)
      exact cb_stop (I := I) hh fun h' k => hQ h' fun b o hb q => k b o hb ((Heap.get?_update_other _ _ (Ne.symm hb)).trans q)
theorem cb_self {st : Int} {Q : Value → Shared → Prop} (h : IsCB s.heap I P st last c) (hQ : Q (.ref I) s) : wpAny (model prog w) A (pyIter (.ref I)) Q E s := by
  have hT : s.TypeIs (.ref I) "itertools.combinations" := ⟨_, h, rfl⟩
  refine wpAny_pyIter_slot hT cb_iter (wpAny_call_entry cb_iter hT cb_entry_iter ?_ (cb_args_iter _))
  show wpAny _ _ (ret (.ref I)) _ _ s
  exact wpAny_pure ⟨_, rfl, "itertools.combinations", _, hT, cb_next.lookup, hQ⟩
end
end E8C
set_option Elab.async false
set_option linter.all false
set_option maxRecDepth 100000
set_option maxHeartbeats 2000000
/-! EB3: list(combinations(range(n), k)) at the library's level, further. -/
namespace E8C
open PySem PySem.Spec PyProof.Rows
section
variable {prog : Program} {w : World}
theorem cb_made (x : Value) (k : Int) (t : Tok) (h0 : 0 ≤ k) (h1 : k < 1000) : MeetsIn prog w (Builtin.«itertools.combinations.__new__» ⟨[.type "itertools.combinations", x, .int k t], []⟩)
    (fun A R s => wpAny (model prog w) A.in1 (collect x) (fun items s1 => items.length ≤ 1000 ∧ R (.ok (.ret (.ref (s1.heap.push { cls := .type "tuple", data := .seq items.toArray }).objs.size)))
        { s1 with heap := (s1.heap.push { cls := .type "tuple", data := .seq items.toArray }).push { cls := .type "itertools.combinations", data := .fields (cbFields s1.heap.objs.size (if k.toNat > items.length then 2 else 0) .none (List.range k.toNat)) } })
      (fun e s1 => R (.error e) s1) s) :=
  .of_wp fun A R s h => by
    have hsub := cb_sub
    have hd := cb_noDict
    unfold Builtin.«itertools.combinations.__new__»
    have ename : ("itertools." ++ "combinations" : String) = "itertools.combinations" := by decide
    have hn1 : ¬ ((decide (k < -(2 ^ 63 : Int)) || decide (k ≥ (2 ^ 63 : Int))) = true) := by
      rw [decide_eq_false (by omega : ¬ k < -(2 ^ 63 : Int)), decide_eq_false (by omega : ¬ k ≥ (2 ^ 63 : Int))]
      decide
    have hn2 : ¬ (Builtin.Itertools.itTooMany k = true) := by
      unfold Builtin.Itertools.itTooMany
      intro z
      have := of_decide_eq_true z
      omega
    repeat (first
      | wp_step
      | simp only [List.head?_cons, Option.some_or, List.getElem?_cons_succ, List.getElem?_cons_zero, List.length_cons, List.length_nil, List.forIn_nil])
    rw [ename]
    refine wpAny_of_eq cb_sub ?_
    rw [if_neg (by decide)]
    refine wpAny_pure ?_
    unfold Builtin.Itertools.itBindNamed
    repeat (first
      | wp_step
      | simp only [List.head?_cons, Option.some_or, List.getElem?_cons_succ, List.getElem?_cons_zero, List.length_cons, List.length_nil, List.forIn_nil])
    rw [if_neg hn1]
    refine wpAny_pure ?_
    refine wpAny_bind (wpAny_mono h (fun items s1 hq => ?_) fun _ _ z => z)
    obtain ⟨hz, hR⟩ := hq
    rw [if_neg (by omega : ¬ k < 0), if_neg hn2]
    refine wpAny_bind (wpAny_newTuple ?_ (by rw [sizeLine_eq]; omega))
    refine wpAny_pure ?_
    unfold Builtin.Itertools.itNewRecord
    dsimp only
    rw [hd]
    rw [if_pos (show (!false) = true from rfl)]
    refine wpAny_bind (wpAny_newObj_type ?_ (by show (cbFields s1.heap.objs.size (if k.toNat > items.length then 2 else 0) .none (List.range k.toNat)).size ≤ sizeLine + 2; rw [cb_size, List.length_range, sizeLine_eq]; omega))
    exact wpAny_pure ⟨_, rfl, hR⟩
end
end E8C
set_option Elab.async false
set_option linter.all false
set_option maxRecDepth 100000
set_option maxHeartbeats 2000000
/-! EB6: list(it), it a fresh combinations object: its tuples stand in the new list. -/
namespace E8C
open PySem PySem.Spec PyProof.Rows PySem.Calls
/-- c, what follows it, and so on to the end -/
def Chain (n : Nat) : List Nat → List (List Nat) → Prop
  | c, [] => nextC n c = none
  | c, d :: r => nextC n c = some d ∧ Chain n d r
/-- where the object stands: what is still to come -/
def CbAt (h : Heap) (I P : Addr) (n : Nat) (todo : List (List Nat)) : Prop :=
  (∃ last c r, todo = c :: r ∧ IsCB h I P 0 last c ∧ Chain n c r) ∨ (∃ last c, IsCB h I P 1 last c ∧ Chain n c todo) ∨ ∃ last c, todo = [] ∧ IsCB h I P 2 last c
theorem CbAt.keep {h h' : Heap} {I P : Addr} {n : Nat} {todo : List (List Nat)} (x : CbAt h I P n todo) (k : ∀ o, h.get? I = some o → h'.get? I = some o) : CbAt h' I P n todo := by
  rcases x with ⟨l, c, r, e, x, y⟩ | ⟨l, c, x, y⟩ | ⟨l, c, e, x⟩
  · exact .inl ⟨l, c, r, e, k _ x, y⟩
  · exact .inr (.inl ⟨l, c, k _ x, y⟩)
  · exact .inr (.inr ⟨l, c, e, k _ x⟩)
theorem CbAt.lt {h : Heap} {I P : Addr} {n : Nat} {todo : List (List Nat)} (x : CbAt h I P n todo) : I < h.objs.size := by
  rcases x with ⟨l, c, r, e, x, y⟩ | ⟨l, c, x, y⟩ | ⟨l, c, e, x⟩ <;> exact Heap.lt_size x
theorem CbAt.ty {s : Shared} {I P : Addr} {n : Nat} {todo : List (List Nat)} (x : CbAt s.heap I P n todo) : s.TypeIs (.ref I) "itertools.combinations" := by
  rcases x with ⟨l, c, r, e, x, y⟩ | ⟨l, c, x, y⟩ | ⟨l, c, e, x⟩ <;> exact ⟨_, x, rfl⟩
/-- the tuple object of these places of the pool -/
abbrev tupOf (items : Array Value) (c : List Nat) : Obj := { cls := .type "tuple", data := .seq (c.map fun i => items.getD i .none).toArray }
section
variable {prog : Program} {w : World} {A : Around} {E : Value → Shared → Prop} {s : Shared} {I P : Addr} {items : Array Value}
theorem cbAt_item {c : List Nat} {r : List (List Nat)} {Q : Option Value → Shared → Prop} (h : CbAt s.heap I P items.size (c :: r)) (hP : s.heap.IsTuple P items) (hPI : P ≠ I) (hc : c.length ≤ 1000)
    (hQ : ∀ h', CbAt h' I P items.size r → h'.get? s.heap.objs.size = some (tupOf items c) → (∀ b o, b ≠ I → s.heap.get? b = some o → h'.get? b = some o) → Q (some (.ref s.heap.objs.size)) { s with heap := h' }) :
    wpAny (model prog w) A (pyNext (.ref I)) Q E s := by
  rcases h with ⟨l, d, r', e, x, y⟩ | ⟨l, d, x, y⟩ | ⟨l, d, e, x⟩
  · cases e
    exact cb_start x hP hPI hc fun h' a1 a2 a3 => hQ h' (.inr (.inl ⟨_, _, a1, y⟩)) a2 a3
  · exact cb_more x hP hPI hc y.1 fun h' a1 a2 a3 => hQ h' (.inr (.inl ⟨_, _, a1, y.2⟩)) a2 a3
  · cases e
theorem cbAt_end {Q : Option Value → Shared → Prop} (hh : A.handled = none) (h : CbAt s.heap I P items.size []) (hP : s.heap.IsTuple P items)
    (hQ : ∀ h', (∀ b o, b ≠ I → s.heap.get? b = some o → h'.get? b = some o) → Q none { s with heap := h' }) : wpAny (model prog w) A (pyNext (.ref I)) Q E s := by
  rcases h with ⟨l, d, r', e, x, y⟩ | ⟨l, d, x, y⟩ | ⟨l, d, e, x⟩
  · cases e
  · exact cb_end hh x hP (.inr ⟨rfl, y⟩) hQ
  · exact cb_end hh x hP (.inl rfl) hQ
theorem cbAt_self {todo : List (List Nat)} {Q : Value → Shared → Prop} (h : CbAt s.heap I P items.size todo) (hQ : Q (.ref I) s) : wpAny (model prog w) A (pyIter (.ref I)) Q E s := by
  rcases h with ⟨l, d, r', e, x, y⟩ | ⟨l, d, x, y⟩ | ⟨l, d, e, x⟩ <;> exact cb_self x hQ
end
/-- at the addresses as the tuples of cs, above lo, rising -/
structure Laid (items : Array Value) (lo : Addr) (h : Heap) (as : List Addr) (cs : List (List Nat)) : Prop where
  rise : as.Pairwise (· < ·)
  above : ∀ a ∈ as, lo < a
  len : as.length = cs.length
  at_ : ∀ (j : Nat) (a : Addr), as[j]? = some a → ∃ c, cs[j]? = some c ∧ h.get? a = some (tupOf items c)
theorem Laid.low {items : Array Value} {lo lo' : Addr} {h : Heap} {as : List Addr} {cs : List (List Nat)} (g : Laid items lo h as cs) (l : lo' ≤ lo) : Laid items lo' h as cs := ⟨g.rise, fun a ha => Nat.lt_of_le_of_lt l (g.above a ha), g.len, g.at_⟩
section
variable {prog : Program} {w : World} {A : Around} {s : Shared} {R : Result → Shared → Prop} {I P S : Addr} {items : Array Value}
theorem cb_loop (hh : A.handled = none) (hSI : I < S) (hSP : P ≠ S) (hPI : P ≠ I) (res : Value) {h₁ : Heap} {cs : List (List Nat)} (hcs : ∀ c ∈ cs, c.length ≤ 1000) (hn : cs.length ≤ 1000)
    (hR : ∀ h' tk acc k as, (∀ b o, b ≠ S → b ≠ I → h₁.get? b = some o → h'.get? b = some o) → h'.get? S = some { cls := .type "list", dict := none, data := .seq acc k, slots := #[] } → Laid items S h' as cs →
      acc.toList = as.map Value.ref → R (.ok (.ret res)) { s with heap := h', toks := tk }) :
    ∀ (todo done : List (List Nat)) (h : Heap) (tk k : Nat) (acc : Array Value) (as : List Addr), done ++ todo = cs → CbAt h I P items.size todo → h.IsTuple P items → (∀ b o, b ≠ S → b ≠ I → h₁.get? b = some o → h.get? b = some o) →
      h.get? S = some { cls := .type "list", dict := none, data := .seq acc k, slots := #[] } → acc.toList = as.map Value.ref → Laid items S h as done →
      codeAny (model prog w) A (.builtin "list.extend.loop" ⟨[.ref S, .ref I, res], []⟩) R { s with heap := h, toks := tk } := by
  have hne : S ≠ I := Nat.ne_of_gt hSI
  intro todo
  induction todo with
  | nil =>
    intro done h tk k acc as hd hst hT hk hS hacc hL
    refine codeAny_builtin PySem.F.entry_extend_loop ?_
    rw [Around.under_plainId PySem.F.plain_extend_loop _]
    show wpAny _ A.in1 (pyNext (.ref I) >>= _) _ _ _
    refine wpAny_bind (cbAt_end (s := { s with heap := h, toks := tk }) (A := A.in1) hh hst hT fun h' e => ?_)
    rw [List.append_nil] at hd
    subst hd
    have nI : ∀ a ∈ as, a ≠ I := fun a ha => Nat.ne_of_gt (Nat.lt_trans hSI (hL.above a ha))
    refine wpAny_pure (hR h' tk acc k as (fun b o h1 h2 q => e b o h2 (hk b o h1 h2 q)) (e S _ hne hS) ⟨hL.rise, hL.above, hL.len, fun j a hj => ?_⟩ hacc)
    obtain ⟨c, z1, z2⟩ := hL.at_ j a hj
    exact ⟨c, z1, e a _ (nI a (List.mem_of_getElem? hj)) z2⟩
  | cons c r ih =>
    intro done h tk k acc as hd hst hT hk hS hacc hL
    have hcm : c ∈ cs := by rw [← hd]; simp
    have hlen : done.length < cs.length := by rw [← hd, List.length_append, List.length_cons]; omega
    have hsz : acc.size = done.length := by rw [← Array.length_toList, hacc, List.length_map, hL.len]
    refine codeAny_builtin PySem.F.entry_extend_loop ?_
    rw [Around.under_plainId PySem.F.plain_extend_loop _]
    show wpAny _ A.in1 (pyNext (.ref I) >>= _) _ _ _
    refine wpAny_bind (cbAt_item (s := { s with heap := h, toks := tk }) hst hT hPI (hcs c hcm) fun h' b1 b2 b3 => ?_)
    dsimp only at b1 b2 b3 ⊢
    have hS' := b3 S _ hne hS
    have up : ∀ b o, b ≠ S → h'.get? b = some o → (h'.update S (Obj.mapSeq (·.push (Value.ref h.objs.size)))).get? b = some o := fun b o hb e => (Heap.get?_update_other _ _ (Ne.symm hb)).trans e
    have hSl : S < h.objs.size := Heap.lt_size hS
    have nI : ∀ a, S < a → a ≠ I := fun a ha => Nat.ne_of_gt (Nat.lt_trans hSI ha)
    show wpAny _ A.in1 (updateSeq S (·.push (Value.ref h.objs.size)) >>= _) _ _ _
    refine wpAny_bind ?_
    refine wpAny_updateSeq hS' rfl (wpAny_pure ⟨plainId_quiet PySem.F.plain_extend_loop _, ih (done ++ [c]) _ tk _ (acc.push (Value.ref h.objs.size)) (as ++ [h.objs.size]) (by rw [List.append_assoc]; exact hd)
      (b1.keep fun o q => up I o (Ne.symm hne) q) (hT.at fun o q => up P o hSP (b3 P o hPI q)) (fun b o h1 h2 q => up b o h1 (b3 b o h2 (hk b o h1 h2 q))) (Heap.get?_update_self _ hS' rfl) (by rw [Array.toList_push, hacc, List.map_append]; rfl)
      ⟨?_, ?_, ?_, ?_⟩⟩) (by rw [hsz, sizeLine_eq]; omega) (by show (acc.push (Value.ref h.objs.size)).size ≤ sizeLine + 1; rw [Array.size_push, hsz, sizeLine_eq]; omega)
    · refine List.pairwise_append.mpr ⟨hL.rise, List.pairwise_singleton _ _, fun a ha b hb => ?_⟩
      rw [List.mem_singleton.mp hb]
      obtain ⟨j, hj⟩ := List.mem_iff_getElem?.mp ha
      obtain ⟨_, _, z⟩ := hL.at_ j a hj
      exact Heap.lt_size z
    · intro a ha
      rcases List.mem_append.mp ha with ha | ha
      · exact hL.above a ha
      · rw [List.mem_singleton.mp ha]; exact hSl
    · rw [List.length_append, List.length_append, hL.len]; rfl
    · intro j b hj
      have hll := hL.len
      rcases Nat.lt_trichotomy j as.length with h1 | h1 | h1
      · rw [List.getElem?_append_left h1] at hj
        obtain ⟨c', z1, z2⟩ := hL.at_ j b hj
        have hb := hL.above b (List.mem_of_getElem? hj)
        exact ⟨c', by rw [List.getElem?_append_left (by omega)]; exact z1, up b _ (Nat.ne_of_gt hb) (b3 b _ (nI b hb) z2)⟩
      · subst h1
        have hb : h.objs.size = b := by simpa using hj
        subst hb
        exact ⟨c, by rw [hll]; simp, up _ _ (Nat.ne_of_gt hSl) b2⟩
      · rw [List.getElem?_eq_none (by rw [List.length_append, List.length_singleton]; omega)] at hj
        cases hj
end
end E8C
set_option Elab.async false
set_option linter.all false
set_option maxRecDepth 100000
set_option maxHeartbeats 2000000
/-! EB7: the call list(it); the call combinations(range, k). -/
namespace E8C
open PySem PySem.Spec PyProof.Rows PySem.Calls
section
variable {prog : Program} {w : World} {A : Around} {s : Shared} {R : Result → Shared → Prop} {I P S : Addr} {items : Array Value} {cs : List (List Nat)}
theorem cb_extend (hh : A.handled = none) (hSI : I < S) (hSP : P ≠ S) (hPI : P ≠ I) (res : Value) (k₀ : Nat) (hcs : ∀ c ∈ cs, c.length ≤ 1000) (hn : cs.length ≤ 1000) (hst : CbAt s.heap I P items.size cs) (hT : s.heap.IsTuple P items)
    (hS : s.heap.get? S = some { cls := .type "list", data := .seq #[] k₀ })
    (hR : ∀ h' tk acc k as, (∀ b o, b ≠ S → b ≠ I → s.heap.get? b = some o → h'.get? b = some o) → h'.get? S = some { cls := .type "list", dict := none, data := .seq acc k, slots := #[] } → Laid items S h' as cs →
      acc.toList = as.map Value.ref → R (.ok (.ret res)) { s with heap := h', toks := tk }) :
    wpAny (model prog w) A.in1 (Builtin.List.listExtendWith (.ref S) (.ref I) res)
      (fun fin s' => match fin with | .done f => R (.ok f) s' | .again c' => c'.quiet = true ∧ codeAny (model prog w) A c' R s') (fun e s' => R (.error e) s') s := by
  have hne : S ≠ I := Nat.ne_of_gt hSI
  have h1 : Builtin.List.listSameRef (.ref S) (.ref I) = false := by simp [Builtin.List.listSameRef, hne]
  have h2 : (Value.type "itertools.combinations" == Value.type "list") = false := by decide
  have h3 : (Value.type "itertools.combinations" == Value.type "tuple") = false := by decide
  unfold Builtin.List.listExtendWith
  refine wpAny_bind (wpAny_typeOf hst.ty ?_)
  simp only [h1, h2, h3, Bool.or_false, Bool.false_eq_true, if_false]
  refine wpAny_bind (cbAt_self hst ?_)
  refine wpAny_bind (wpAny_holding ?_)
  unfold Builtin.List.listLengthHint
  refine wpAny_bind (wpAny_specialOf hst.ty cb_nolen ?_)
  show wpAny _ A.in1 (specialOf (Value.ref I) (Str.ofString "__length_hint__") >>= _) _ _ _
  refine wpAny_bind (wpAny_specialOf hst.ty cb_nohint ?_)
  refine wpAny_pure ?_
  show wpAny _ A.in1 (rule "list.extend.makes-room" >>= fun _ => Builtin.List.listTouch (.ref S) >>= fun _ => again (.builtin "list.extend.loop" ⟨[.ref S, .ref I, res], []⟩)) _ _ _
  refine wpAny_bind (wpAny_rule ?_)
  refine wpAny_bind ?_
  show wpAny _ A.in1 (updateSeq S (·.push .none) >>= fun _ => updateSeq S (·.pop)) _ _ _
  refine wpAny_bind (wpAny_updateSeq hS rfl ?_)
  have hS2 := Heap.get?_update_self (Obj.mapSeq (·.push Value.none)) hS rfl
  refine wpAny_updateSeq (hz := by seq_fits) hS2 rfl ?_
  have hS3 := Heap.get?_update_self (Obj.mapSeq (·.pop)) hS2 rfl
  have oth : ∀ b o, b ≠ S → s.heap.get? b = some o → ((s.heap.update S (Obj.mapSeq (·.push Value.none))).update S (Obj.mapSeq (·.pop))).get? b = some o :=
    fun b o hb e => (Heap.get?_update_other _ _ (Ne.symm hb)).trans ((Heap.get?_update_other _ _ (Ne.symm hb)).trans e)
  exact wpAny_pure ⟨plainId_quiet PySem.F.plain_extend_loop _, cb_loop hh hSI hSP hPI res hcs hn hR cs [] _ s.toks _ #[] [] rfl (hst.keep fun o q => oth I o hne.symm q) (hT.at fun o q => oth P o hSP q) (fun b o h1 _ q => oth b o h1 q) hS3 rfl
    ⟨List.Pairwise.nil, (fun _ ha => nomatch ha), rfl, fun j a hj => by simp at hj⟩⟩
theorem cb_listInit (hh : A.handled = none) (hSI : I < S) (hSP : P ≠ S) (hPI : P ≠ I) (hcs : ∀ c ∈ cs, c.length ≤ 1000) (hn : cs.length ≤ 1000) (hst : CbAt s.heap I P items.size cs) (hT : s.heap.IsTuple P items)
    (hS : s.heap.get? S = some { cls := .type "list", data := .seq #[] })
    (hR : ∀ h' tk acc k as, (∀ b o, b ≠ S → b ≠ I → s.heap.get? b = some o → h'.get? b = some o) → h'.get? S = some { cls := .type "list", dict := none, data := .seq acc k, slots := #[] } → Laid items S h' as cs →
      acc.toList = as.map Value.ref → R (.ok (.ret .none)) { s with heap := h', toks := tk }) :
    wpAny (model prog w) A.in1 (Builtin.«list.__init__» ⟨[.ref S, .ref I], []⟩)
      (fun fin s' => match fin with | .done f => R (.ok f) s' | .again c' => c'.quiet = true ∧ codeAny (model prog w) A c' R s') (fun e s' => R (.error e) s') s := by
  have hne : S ≠ I := Nat.ne_of_gt hSI
  show wpAny _ _ (Builtin.List.listItems (.ref S) >>= fun old => Builtin.List.listUpdate (.ref S) (fun _ => #[]) >>= fun _ => letGo old.toList.reverse >>= fun _ => Builtin.List.listExtendWith (.ref S) (.ref I) .none) _ _ s
  refine wpAny_bind ?_
  unfold Builtin.List.listItems
  refine wpAny_bind (wpAny_seqItems hS rfl (wpAny_pure ?_))
  show wpAny _ _ (updateSeq S (fun _ => #[]) >>= fun _ => letGo (#[] : Array Value).toList.reverse >>= fun _ => Builtin.List.listExtendWith (.ref S) (.ref I) .none) _ _ s
  refine wpAny_bind (wpAny_updateSeq hS rfl ?_)
  have hS2 := Heap.get?_update_self (Obj.mapSeq (fun _ => (#[] : Array Value))) hS rfl
  have oth : ∀ b o, b ≠ S → s.heap.get? b = some o → (s.heap.update S (Obj.mapSeq (fun _ => (#[] : Array Value)))).get? b = some o := fun b o hb e => (Heap.get?_update_other _ _ (Ne.symm hb)).trans e
  refine wpAny_bind (wpAny_letGo ?_)
  exact cb_extend hh hSI hSP hPI .none _ hcs hn (hst.keep fun o q => oth I o hne.symm q) (hT.at fun o q => oth P o hSP q) hS2 fun h' tk acc k as a1 a2 a3 a4 => hR h' tk acc k as (fun b o h1 h2 q => a1 b o h1 h2 (oth b o h1 q)) a2 a3 a4
theorem cb_list {E : Value → Shared → Prop} {Q : Value → Shared → Prop} (hh : A.handled = none) (hPI : P ≠ I) (hcs : ∀ c ∈ cs, c.length ≤ 1000) (hn : cs.length ≤ 1000) (hst : CbAt s.heap I P items.size cs) (hT : s.heap.IsTuple P items)
    (hQ : ∀ h' tk acc k as, (∀ b o, b ≠ I → s.heap.get? b = some o → h'.get? b = some o) → h'.get? s.heap.objs.size = some { cls := .type "list", dict := none, data := .seq acc k, slots := #[] } → Laid items s.heap.objs.size h' as cs →
      acc.toList = as.map Value.ref → Q (.ref s.heap.objs.size) { s with heap := h', toks := tk }) :
    wpAny (model prog w) A (call (.type "list") [.ref I]) Q E s := by
  refine callType_codes (Q₁ := fun obj s₁ => obj = .ref s.heap.objs.size ∧ s₁ = { s with heap := s.heap.push { cls := .type "list", data := .seq #[] } }) PySem.F.called_list (PySem.F.typeCall_list_1 _) PySem.F.entry_list_init
    (code_list_new _ ⟨rfl, rfl⟩) fun obj s₁ h₁ => ?_
  obtain ⟨rfl, rfl⟩ := h₁
  have hS : (s.heap.push { cls := .type "list", data := .seq #[] }).get? s.heap.objs.size = some { cls := .type "list", data := .seq #[] } := Heap.get?_push_size _ rfl
  have hP : P < s.heap.objs.size := let ⟨_, ho, _⟩ := hT; Heap.lt_size ho
  refine ⟨⟨_, hS, rfl⟩, PySem.F.args_list_init_2 _ _, cb_listInit (A := A.in1) hh hst.lt (Nat.ne_of_lt hP) hPI hcs hn (hst.keep fun o q => Heap.get?_push_of_some _ q) (hT.at fun o q => Heap.get?_push_of_some _ q) hS fun h' tk acc k as a1 a2 a3 a4 => ?_⟩
  exact ⟨rfl, hQ h' tk acc k as (fun b o h2 q => a1 b o (Nat.ne_of_lt (Heap.lt_size q)) h2 (Heap.get?_push_of_some _ q)) a2 a3 a4⟩
/-- combinations(r, k), r a range: the object, at its start -/
theorem cb_call {E : Value → Shared → Prop} {Q : Value → Shared → Prop} {r : Addr} {b : Int} {t u v tk0 : Tok} {k : Nat} (hh : A.handled = none) (hr : IsRange s.heap r 0 b 1 t u v) (hb0 : 0 ≤ b) (hb : b ≤ 100) (hk : k < 1000)
    (hQ : ∀ (h' : Heap) (tk : Nat) (I P : Addr) (items : Array Value), (∀ a o, s.heap.get? a = some o → h'.get? a = some o) → ItemsOf (fun i v => ∃ t, v = .int (0 + i * 1) t) items b.toNat → h'.IsTuple P items → P ≠ I → s.heap.get? I = none →
      IsCB h' I P (if k > items.size then 2 else 0) .none (List.range k) → Q (.ref I) { s with heap := h', toks := tk }) :
    wpAny (model prog w) A (call (.type "itertools.combinations") [.ref r, .int k tk0]) Q E s := by
  refine callType_newIn cb_called (by decide) (cb_typeCall _ _) (cb_newCall _ _) (fun obj => PySem.F.args_object_init_3 obj _ _) cb_entry_new (cb_made (.ref r) (k : Int) tk0 (by omega) (by omega)) ?_
  show wpAny (model prog w) A.in1.in1 (collect (.ref r)) _ _ _
  have hsz : Builtin.Range.rangeSize 0 b 1 = b.toNat := by rw [rangeSize_one]; split <;> omega
  refine L2.collect_range (A := A.in1.in1) hh hr (small_one (by omega) (by omega) (by omega) (by omega)) (n := b.toNat) (by rw [hsz]) (by omega) fun h' tk acc hk' hacc => ?_
  have hl : acc.toList.length = b.toNat := by rw [Array.length_toList]; exact hacc.1
  refine ⟨by omega, ?_⟩
  dsimp only
  have hz : (h'.push { cls := .type "tuple", data := .seq acc.toList.toArray }).objs.size = h'.objs.size + 1 := Heap.size_push ..
  have e1 : acc.toList.toArray = acc := Array.toArray_toList
  rw [Int.toNat_natCast]
  have hg := Heap.get?_push_size (h'.push { cls := .type "tuple", data := .seq acc.toList.toArray }) (o := { cls := .type "itertools.combinations", data := .fields (cbFields h'.objs.size (if k > acc.toList.length then 2 else 0) .none (List.range k)) }) rfl
  refine ⟨⟨_, hg, rfl⟩, ?_⟩
  rw [hz] at hg ⊢
  have hlen : acc.toList.length = acc.size := Array.length_toList
  refine hQ _ tk (h'.objs.size + 1) h'.objs.size acc (fun a o q => Heap.get?_push_of_some _ (Heap.get?_push_of_some _ (hk' a o q))) hacc ?_ (Nat.ne_of_lt (Nat.lt_succ_self _)) ?_ ?_
  · refine ⟨_, Heap.get?_push_of_some _ (Heap.get?_push_size _ rfl), rfl, 0, ?_⟩
    rw [e1]
  · cases q : s.heap.get? (h'.objs.size + 1) with
    | none => rfl
    | some o => exact absurd (Heap.lt_size (hk' _ _ q)) (Nat.not_lt.mpr (Nat.le_succ _))
  · rw [hlen] at hg
    exact hg
end
end E8C
set_option Elab.async false
set_option linter.all false
set_option maxRecDepth 100000
set_option maxHeartbeats 2000000
/-! EB8: list(combinations(range(n), k)) as a rule of the layer. -/
namespace E8
open PySem PySem.Spec PyProof.Rows L2 E8C
/-- the tuples cs tracked at ts -/
def putC : Hp → List Addr → List (List Nat) → Hp
  | H, a :: as, c :: cs => putC (upd H a (.tup (c.map fun (i : Nat) => V.int i))) as cs
  | H, _, _ => H
theorem putC_off {b : Addr} : ∀ (as : List Addr) (cs : List (List Nat)) (H : Hp), b ∉ as → putC H as cs b = H b
  | [], _, _, _ => rfl
  | _ :: _, [], _, _ => rfl
  | a :: as, c :: cs, H, h => by
    have ih := putC_off as cs (upd H a (.tup (c.map fun (i : Nat) => V.int i))) fun z => h (List.mem_cons_of_mem _ z)
    refine ih.trans (upd_ne fun z => h ?_)
    rw [z]
    exact List.mem_cons_self
theorem putC_at : ∀ (as : List Addr) (cs : List (List Nat)) (H : Hp) (j : Nat) (a : Addr) (c : List Nat), as.Nodup → as[j]? = some a → cs[j]? = some c → putC H as cs a = some (.tup (c.map fun (i : Nat) => V.int i))
  | [], _, _, _, _, _, _, h, _ => by simp at h
  | _ :: _, [], _, _, _, _, _, _, h => by simp at h
  | b :: as, d :: cs, H, 0, a, c, hn, h1, h2 => by
    have e1 : b = a := by simpa using h1
    have e2 : d = c := by simpa using h2
    subst e1 e2
    exact (putC_off as cs _ (List.nodup_cons.mp hn).1).trans upd_same
  | b :: as, d :: cs, H, j + 1, a, c, hn, h1, h2 => putC_at as cs _ j a c (List.nodup_cons.mp hn).2 (by simpa using h1) (by simpa using h2)
theorem refs_vals : ∀ as : List Addr, Vals (as.map V.ref) (as.map Value.ref)
  | [] => .nil
  | _ :: as => .cons rfl (refs_vals as)
theorem places_vals {items : Array Value} {n : Nat} (h : ItemsOf (fun i v => ∃ t, v = .int (0 + i * 1) t) items n) : ∀ c : List Nat, (∀ i ∈ c, i < n) → Vals (c.map fun (i : Nat) => V.int i) (c.map fun i => items.getD i .none)
  | [], _ => .nil
  | i :: c, hc => by
    have hi : i < n := hc i List.mem_cons_self
    refine .cons ?_ (places_vals h c fun j hj => hc j (List.mem_cons_of_mem _ hj))
    have hs : i < items.size := by rw [h.1]; exact hi
    obtain ⟨t, e⟩ := h.2 i items[i] (by simp [hs])
    refine ⟨t, ?_⟩
    show items.getD i .none = _
    rw [Array.getD_eq_getD_getElem?, Array.getElem?_eq_getElem hs]
    show items[i] = _
    rw [e, Int.zero_add, Int.mul_one]
section
variable {X : Cx} {pins : List (Addr × Obj)} {σ : L2.St} {H : Hp} {s : Shared} {h' : Heap}
theorem combos_laid {tk k n : Nat} {acc : Array Value} {as : List Addr} {cs : List (List Nat)} {items : Array Value} {S : Addr} (I : L2.Inv X pins σ H s) (hi : ItemsOf (fun i v => ∃ t, v = .int (0 + i * 1) t) items n) (hcs : ∀ c ∈ cs, c.length ≤ 1000 ∧ ∀ i ∈ c, i < n) (hn : cs.length ≤ 1000)
    (hk : ∀ b o, s.heap.get? b = some o → h'.get? b = some o) (nS : s.heap.get? S = none) (nT : ∀ a ∈ as, s.heap.get? a = none) (hS : h'.get? S = some { cls := .type "list", dict := none, data := .seq acc k, slots := #[] }) (hL : Laid items S h' as cs) (hacc : acc.toList = as.map Value.ref) :
    ∃ H' : Hp, Same H H' ∧ H S = none ∧ H' S = some (.lst (as.map V.ref)) ∧ (∀ (j : Nat) (c : List Nat), cs[j]? = some c → ∃ a, as[j]? = some a ∧ H' a = some (.tup (c.map fun (i : Nat) => V.int i))) ∧ L2.Inv X pins σ H' { s with heap := h', toks := tk } := by
  have hSn : S ∉ as := fun z => Nat.lt_irrefl _ (hL.above _ z)
  have nd : as.Nodup := List.Pairwise.imp (fun {a b} (h : a < b) => Nat.ne_of_lt h) hL.rise
  have new : ∀ t ∈ as, H t = none := fun t ht => I.hok.gone (nT t ht)
  have newS : H S = none := I.hok.gone nS
  have off : ∀ b, b ∉ as → b ≠ S → putC (upd H S (.lst (as.map V.ref))) as cs b = H b := fun b h1 h2 => (putC_off as cs _ h1).trans (upd_ne h2)
  have low : ∀ b o, s.heap.get? b = some o → b ∉ as ∧ b ≠ S := fun b o e => ⟨fun z => (by rw [nT b z] at e; cases e), fun z => (by rw [z, nS] at e; cases e)⟩
  have kp : ∀ b u, H b = some u → putC (upd H S (.lst (as.map V.ref))) as cs b = some u := fun b u e =>
    (off b (fun z => by rw [new b z] at e; cases e) (fun z => by rw [z, newS] at e; cases e)).trans e
  have eS : putC (upd H S (.lst (as.map V.ref))) as cs S = some (.lst (as.map V.ref)) := (putC_off as cs _ hSn).trans upd_same
  refine ⟨putC (upd H S (.lst (as.map V.ref))) as cs, kp, newS, eS, fun j c hj => ?_, ?_⟩
  · have hlt : j < as.length := by rw [hL.len]; exact (List.getElem?_eq_some_iff.mp hj).1
    exact ⟨as[j], List.getElem?_eq_getElem hlt, putC_at as cs _ j _ c nd (List.getElem?_eq_getElem hlt) hj⟩
  · refine I.call' (ch := []) rfl ⟨fun b o q _ _ _ => hk b o q, fun b o q _ _ _ => ⟨o.slots, hk b o q⟩, fun b o q n _ => ?_, fun b o q _ => ⟨o, hk b o q⟩, fun b xs q => kp b _ q, fun b o u q => kp b _ q, fun b ps q => ⟨#[], by rw [kp b _ q]; simp⟩⟩ (fun b u q => ?_) I.bare fun b z => by simp at z
    · obtain ⟨z1, z2⟩ := low b o q
      exact (off b z1 z2).trans n
    · by_cases hb : b ∈ as
      · obtain ⟨j, e1⟩ := List.mem_iff_getElem?.mp hb
        obtain ⟨c, e2, e3⟩ := hL.at_ j b e1
        have z := putC_at as cs (upd H S (.lst (as.map V.ref))) j b c nd e1 e2
        rw [z] at q
        cases q
        obtain ⟨c1, c2⟩ := hcs c (List.mem_of_getElem? e2)
        exact ⟨by rw [List.length_map, sizeLine_eq]; omega, _, places_vals hi c c2, ⟨_, e3, rfl, 0, rfl⟩⟩
      · by_cases hb2 : b = S
        · rw [hb2] at q ⊢
          rw [eS] at q
          cases q
          have hl := hL.len
          refine ⟨by rw [List.length_map, sizeLine_eq]; omega, acc.toList, k, by rw [hacc]; exact refs_vals as, ?_⟩
          rw [Array.toArray_toList]
          exact hS
        · rw [off b hb hb2] at q
          exact (I.hok b u q).stay (fun d v _ y => hk d v y) (fun d y => kp d _ y) fun d xs y => kp d _ y
/-- list(combinations(range(e1), e2)): a new list of new tuples -/
def tCombos (t1 t2 : TE) : TE := fun σ H Q => t1 σ H fun x H1 => ∃ n : Nat, x = .int n ∧ n ≤ 100 ∧ t2 σ H1 fun y H2 => ∃ (k : Nat) (cs : List (List Nat)), y = .int k ∧ k < 1000 ∧ (∀ c ∈ cs, c.length ≤ 1000 ∧ ∀ i ∈ c, i < n) ∧ cs.length ≤ 1000 ∧
  (if k > n then cs = [] else ∃ r, cs = List.range k :: r ∧ Chain n (List.range k) r) ∧
  ∀ (H' : Hp) (p : Addr) (as : List Addr), Same H2 H' → H2 p = none → H' p = some (.lst (as.map V.ref)) → as.length = cs.length → (∀ (j : Nat) (c : List Nat), cs[j]? = some c → ∃ a, as[j]? = some a ∧ H' a = some (.tup (c.map fun (i : Nat) => V.int i))) → Q (.ref p) H'
theorem pe_combos {e1 e2 : Expr} {t1 t2 : TE} {p1 p2 p3 q1 q2 q3 : Pos} (hc : X.calm = true) (gl : Gl X "list") (ml : X.mg "list" = none) (gc : Gl X "combinations") (mc : X.mg "combinations" = some (.type "itertools.combinations")) (gr : Gl X "range") (mr : X.mg "range" = none)
    (h1 : PE X e1 t1) (h2 : PE X e2 t2)
    (s1 : starEach [e1] X.env = [(false, eval e1 X.env)] := by rfl) (s0 : starEach [e2] X.env = [(false, eval e2 X.env)] := by rfl)
    (s2 : starEach [.Call (.Name "range" p1) [e1] [] q1, e2] X.env = (false, eval (.Call (.Name "range" p1) [e1] [] q1) X.env) :: starEach [e2] X.env := by rfl)
    (s3 : starEach [.Call (.Name "combinations" p2) [.Call (.Name "range" p1) [e1] [] q1, e2] [] q2] X.env = [(false, eval (.Call (.Name "combinations" p2) [.Call (.Name "range" p1) [e1] [] q1, e2] [] q2) X.env)] := by rfl) :
    PE X (.Call (.Name "list" p3) [.Call (.Name "combinations" p2) [.Call (.Name "range" p1) [e1] [] q1, e2] [] q2] [] q3) (tCombos t1 t2) := by
  refine ⟨fun pins s σ H Q I hq => ?_⟩
  refine wpAny_Call_Name_kw (ld_blt I gl ml boot_list ?_)
  refine PyProof.Rows.callWith_type1 ?_ (by rw [s3]; rfl) (by rfl)
  rw [s3]
  refine PySem.Calls.spliced_cons ?_
  refine wpAny_Call_Name_kw (ld_glob I gc mc ?_)
  refine PyProof.Rows.callWith_type1 ?_ s2 (by rw [s0]; rfl)
  rw [s2, s0]
  refine PySem.Calls.spliced_cons ?_
  refine wpAny_Call_Name_kw (ld_blt I gr mr boot_range ?_)
  refine PyProof.Rows.callWith_type1 ?_ (by rw [s1]; rfl) (by rfl)
  rw [s1]
  refine PySem.Calls.spliced_cons (thn (h1.run pins s σ H _ I hq) fun u s4 ⟨x, H1, I1, rx, n, ex, hn, hq1⟩ => ?_)
  subst ex
  obtain ⟨t, rfl⟩ := rx
  refine PySem.Calls.spliced_nil ?_
  refine call_range_1 ?_
  have I2 : L2.Inv X pins σ H1 { s4 with heap := s4.heap.push { cls := .type "range", data := .fields #[.int 0 s4.toks, .int n t, .int 1 (s4.toks + 1)] }, toks := s4.toks + 1 + 1 } := I1.kept (t' := s4.toks + 1 + 1) fun b o e => Heap.get?_push_of_some _ e
  have hr : IsRange (s4.heap.push { cls := .type "range", data := .fields #[.int 0 s4.toks, .int n t, .int 1 (s4.toks + 1)] }) s4.heap.objs.size 0 n 1 s4.toks t (s4.toks + 1) := IsRange.new ..
  generalize hrr : s4.heap.objs.size = r at hr ⊢
  generalize hs5 : ({ s4 with heap := s4.heap.push { cls := .type "range", data := .fields #[.int 0 s4.toks, .int n t, .int 1 (s4.toks + 1)] }, toks := s4.toks + 1 + 1 } : Shared) = s5 at I2 ⊢
  have hr5 : IsRange s5.heap r 0 n 1 s4.toks t (s4.toks + 1) := by rw [← hs5]; exact hr
  have fp := I1.fpOk (b := r) (Nat.le_of_eq hrr) (I1.hok.fresh (Nat.le_of_eq hrr))
  have I3 : L2.Inv X (pins ++ [(r, { cls := .type "range", data := .fields #[.int 0 s4.toks, .int n t, .int 1 (s4.toks + 1)] })]) σ H1 s5 := I2.pins_of fun p hp => by
    rcases List.mem_append.mp hp with z | z
    · exact I2.pin p (List.mem_append_right _ z)
    · rw [List.mem_singleton.mp z]
      exact ⟨hr5, fp.1, fp.2.1, fp.2.2.1, fun v q => nomatch q⟩
  refine PySem.Calls.spliced_cons (thn (h2.run _ s5 σ H1 _ I3 hq1) fun u2 s6 ⟨y, H2, I6, ry, k, cs, ey, hk, hcs, hlen, hch, hQ⟩ => ?_)
  subst ey
  obtain ⟨t2', rfl⟩ := ry
  refine PySem.Calls.spliced_nil ?_
  have hr6 : IsRange s6.heap r 0 n 1 s4.toks t (s4.toks + 1) := (I6.pin (r, _) (List.mem_append_right _ (List.mem_append_right _ (List.mem_singleton.mpr rfl)))).1
  have I7 : L2.Inv X pins σ H2 s6 := I6.unpinned
  have hh := I7.ok.hd hc
  refine cb_call hh hr6 (by omega) (by omega) hk fun h7 tk7 J P items k7 hit hT hPJ nJ hJ => ?_
  refine PySem.Calls.spliced_nil ?_
  have hsz : items.size = n := by rw [hit.1, Int.toNat_natCast]
  have hst : CbAt h7 J P items.size cs := by
    rw [hsz] at hJ ⊢
    by_cases hkn : k > n
    · rw [if_pos hkn] at hJ hch
      exact .inr (.inr ⟨_, _, hch, hJ⟩)
    · rw [if_neg hkn] at hJ hch
      obtain ⟨rr, e1', e2'⟩ := hch
      exact .inl ⟨_, _, rr, e1', hJ, e2'⟩
  refine cb_list (s := { s6 with heap := h7, toks := tk7 }) hh hPJ (fun c hm => (hcs c hm).1) hlen hst hT fun h8 tk8 acc k8 as a1 a2 a3 a4 => ?_
  dsimp only at a1 a2 a3 ⊢
  have nJ' : ∀ b o, s6.heap.get? b = some o → b ≠ J := fun b o q z => by rw [z, nJ] at q; cases q
  have old : ∀ b o, s6.heap.get? b = some o → h8.get? b = some o := fun b o q => a1 b o (nJ' b o q) (k7 b o q)
  have big : ∀ a, h7.objs.size ≤ a → s6.heap.get? a = none := fun a ha => by
    cases q : s6.heap.get? a with
    | none => rfl
    | some o => exact absurd (Heap.lt_size (k7 a o q)) (Nat.not_lt.mpr ha)
  obtain ⟨H', b1, b2, b3, b4, b5⟩ := combos_laid (tk := tk8) I7 (by rw [Int.toNat_natCast] at hit; exact hit) hcs hlen old (big _ (Nat.le_refl _)) (fun a ha => big a (Nat.le_of_lt (a3.above a ha))) a2 a3 a4
  exact ⟨.ref _, H', b5, rfl, hQ H' _ as b1 b2 b3 a3.len b4⟩
end
end E8
set_option Elab.async false
set_option linter.all false
set_option maxRecDepth 100000
/-! EB9: sorted of data, raise X(), tuple * 1, data told by Dp. -/
namespace E8
open PySem PySem.Spec PyProof.Rows L2
open PySem.W (EachIs AllAlike Sortable dataLe)

/-! ### data -/
theorem DpAll.len {K : PySem.W.Frag} {H : Hp} : ∀ {xs : List V} {ds : List PyData}, DpAll K H xs ds → xs.length = ds.length
  | [], _, h => by cases h; rfl
  | _ :: _, _, h => by
    cases h with
    | cons h1 h2 => rw [List.length_cons, List.length_cons, DpAll.len h2]
mutual
theorem Dp.same {K : PySem.W.Frag} {H H' : Hp} (e : ∀ b o, H b = some o → H' b = some o) : ∀ (d : PyData) (v : V), Dp K H v d → Dp K H' v d
  | .none, _, h => by cases h; exact .non
  | .bool b, _, h => by cases h; exact .bl b
  | .int i, _, h => by cases h; exact .int i
  | .str x, _, h => by cases h; exact .str x
  | .list ds, _, h => by
    cases h with
    | lst hs ha => exact .lst (Same.seq e hs) (DpAll.same e ds _ ha)
  | .tuple ds, _, h => by
    cases h with
    | tup hs ha => exact .tup (Same.tup e hs) (DpAll.same e ds _ ha)
  | .dict _, _, h => by cases h
theorem DpAll.same {K : PySem.W.Frag} {H H' : Hp} (e : ∀ b o, H b = some o → H' b = some o) : ∀ (ds : List PyData) (vs : List V), DpAll K H vs ds → DpAll K H' vs ds
  | [], _, h => by cases h; exact .nil
  | d :: ds, _, h => by
    cases h with
    | cons h1 h2 => exact .cons (Dp.same e d _ h1) (DpAll.same e ds _ h2)
end
theorem DpAll.get {K : PySem.W.Frag} {H : Hp} : ∀ {xs : List V} {ds : List PyData} {i : Nat} {x : V}, DpAll K H xs ds → xs[i]? = some x → ∃ d, ds[i]? = some d ∧ Dp K H x d
  | [], _, _, _, _, e => by simp at e
  | y :: xs, _, 0, x, h, e => by
    cases h with
    | cons h1 h2 =>
      have e' : y = x := by simpa using e
      subst e'
      exact ⟨_, rfl, h1⟩
  | y :: xs, _, i + 1, x, h, e => by
    cases h with
    | cons h1 h2 =>
      obtain ⟨d, e1, e2⟩ := DpAll.get (i := i) (x := x) h2 (by simpa using e)
      exact ⟨d, by simpa using e1, e2⟩
theorem DpAll.append {K : PySem.W.Frag} {H : Hp} : ∀ {xs ys : List V} {ds es : List PyData}, DpAll K H xs ds → DpAll K H ys es → DpAll K H (xs ++ ys) (ds ++ es)
  | [], _, _, _, h, g => by cases h; exact g
  | _ :: _, _, _, _, h, g => by
    cases h with
    | cons h1 h2 => exact .cons h1 (DpAll.append h2 g)
/-- ints as data -/
def dInts (ns : List Int) : List PyData := ns.map PyData.int
theorem dpInts {K : PySem.W.Frag} {H : Hp} : ∀ ns : List Int, DpAll K H (ns.map V.int) (dInts ns)
  | [] => .nil
  | n :: r => .cons (.int n) (dpInts r)
theorem dpInts_inv {K : PySem.W.Frag} {H : Hp} : ∀ {xs : List V} {ns : List Int}, DpAll K H xs (dInts ns) → xs = ns.map V.int
  | [], [], _ => rfl
  | [], n :: r, h => by cases h
  | x :: xs, [], h => by cases h
  | x :: xs, n :: r, h => by
    cases h with
    | cons h1 h2 =>
      cases h1
      rw [dpInts_inv h2]
      rfl
theorem dpTupI {K : PySem.W.Frag} {H : Hp} {a : Addr} {ns : List Int} (h : SqT K H a (ns.map V.int)) : Dp K H (.ref a) (.tuple (dInts ns)) := .tup h (dpInts ns)
theorem dpTupI_inv {K : PySem.W.Frag} {H : Hp} {v : V} {ns : List Int} (h : Dp K H v (.tuple (dInts ns))) : ∃ a, v = .ref a ∧ SqT K H a (ns.map V.int) := by
  cases h with
  | tup hs ha =>
    rw [dpInts_inv ha] at hs
    exact ⟨_, rfl, hs⟩

/-! ### sorted of data -/
section
variable {X : Cx}
def rSortedD (K : PySem.W.Frag) : List V → Hp → VK → Prop := fun vs H Q => ∃ (a : Addr) (xs : List V) (ds : List PyData), vs = [.ref a] ∧ SqL K H a xs ∧ DpAll K H xs ds ∧ AllAlike ds ∧ Sortable ds ∧ (∀ d ∈ ds, d.depth ≤ 50) ∧
  ∀ (ys : List V) (p : Addr), H p = none → DpAll K H ys (ds.mergeSort (dataLe false id)) → Q (.ref p) (upd H p (.lst ys))
theorem each_of {K : PySem.W.Frag} {pins : List (Addr × Obj)} {σ : L2.St} {H : Hp} {s : Shared} (I : L2.Inv X pins σ H s) : ∀ {xs : List V} {ds : List PyData} {us : List Value}, DpAll X.K H xs ds → Vals xs us →
    EachIs (fun u (b : V × PyData) => L2.RelV b.1 u ∧ Dp X.K H b.1 b.2) us (xs.zip ds) ∧ EachIs (fun u (b : V × PyData) => ∃ as, Reads s.heap u b.2 as) us (xs.zip ds)
  | [], _, _, h, r => by cases h; cases r; exact ⟨.nil, .nil⟩
  | _ :: _, _, _, h, r => by
    cases h with
    | cons h1 h2 =>
      cases r with
      | cons r1 r2 =>
        obtain ⟨q1, q2⟩ := each_of (K := K) I h2 r2
        exact ⟨.cons ⟨r1, h1⟩ q1, .cons (Dp.reads I _ _ _ h1 r1) q2⟩
theorem zip_snd : ∀ {xs : List V} {ds : List PyData}, xs.length = ds.length → (xs.zip ds).map Prod.snd = ds
  | [], [], _ => rfl
  | [], _ :: _, h => by cases h
  | _ :: _, [], h => by cases h
  | x :: xs, d :: ds, h => by
    rw [List.zip_cons_cons, List.map_cons, zip_snd (by simpa using h)]
theorem vals_each {H : Hp} {K : PySem.W.Frag} : ∀ {us : List Value} {bs : List (V × PyData)}, EachIs (fun u (b : V × PyData) => L2.RelV b.1 u ∧ Dp K H b.1 b.2) us bs → Vals (bs.map Prod.fst) us ∧ DpAll K H (bs.map Prod.fst) (bs.map Prod.snd)
  | _, _, .nil => ⟨.nil, .nil⟩
  | _, _, .cons h t => by
    obtain ⟨q1, q2⟩ := vals_each t
    exact ⟨.cons h.1 q1, .cons h.2 q2⟩
theorem cr_sortedD (hu : X.A.units + 60 < cLine) : CallR X (.builtin "sorted") (rSortedD X.K) := by
  intro pins s σ H vs us Q I r h
  obtain ⟨a, xs, ds, rfl, hs, hd, hal, hso, hdep, q⟩ := h
  obtain ⟨its, rv, hl, hz⟩ := I.list hs
  rw [Vals.ref1 r]
  have hlen := DpAll.len hd
  have em := zip_snd hlen
  obtain ⟨e1, e2⟩ := each_of (K := X.K) I hd rv
  have hzl : (xs.zip ds).length = xs.length := by rw [List.length_zip]; omega
  refine PySem.W.sorted_data (enc := Prod.snd) hl.isList e1 e2 (by rw [em]; exact hal) (by rw [em]; exact hso) (by rw [hzl]; exact hz) (fun b hb => ?_) fun out ol oe => ?_
  · have hm : b.2 ∈ ds := by rw [← em]; exact List.mem_map_of_mem hb
    have := hdep _ hm
    omega
  · obtain ⟨v1, v2⟩ := vals_each oe
    have es : ((xs.zip ds).mergeSort (dataLe false Prod.snd)).map Prod.snd = ds.mergeSort (dataLe false id) := by
      rw [PySem.W.sort_maps (r := dataLe false Prod.snd) (s := dataLe false id) Prod.snd (fun _ _ _ _ => rfl), em]
    rw [es] at v2
    obtain ⟨ep, he'⟩ := PyProof.Rows.sortedAll_at s.heap its out.toArray
    have hlen2 : (((xs.zip ds).mergeSort (dataLe false Prod.snd)).map Prod.fst).length ≤ sizeLine := by
      rw [v1.length, ol, hzl]
      exact hz
    exact ⟨.ref _, upd H (s.heap.objs.size + 1) (.lst (((xs.zip ds).mergeSort (dataLe false Prod.snd)).map Prod.fst)), I.laid (t' := s.toks) (fun _ _ => PyProof.Rows.sortedAll_old) (Nat.le_succ _) ⟨hlen2, out, ep, v1, he'⟩, rfl, q _ _ (I.hok.fresh (Nat.le_succ _)) v2⟩
end
end E8
set_option Elab.async false
set_option linter.all false
set_option maxRecDepth 100000
set_option maxHeartbeats 2000000
/-! EB10: raise X(), tuple * k from 1. -/
namespace E8
open PySem PySem.Spec PyProof.Rows L2
section
variable {X : Cx} {C : Addr} {bmB : List Value} {B newId initId : String}
/-- X() -/
theorem pmk_none {x : Str} {p pos : Pos} (F : ExcBaseFacts B newId initId bmB) (q : PySem.W.excIn X.K C bmB newId = true) (gC : X.mg x = some (.ref C)) (kC : PySem.W.keepIn X.K (.ref C) = true) (r : Raises X (.ref C)) (hg : Gl X x)
    (hdb : (x == ("__debug__" : Str)) = false := by decide) : PMk X (.Call (.Name x p) [] [] pos) (fun _ H Q => Q (.ref C) none H) := by
  intro pins s σ H Q I h
  refine wpAny_Call_Name_kw (ld_glob I hg gC ?_ hdb)
  refine PySem.W.callWith_K0 I.kIn kC ?_
  show wpAny _ _ (call (.ref C) []) _ _ _
  obtain ⟨bm, N, nm, qn, bs, hdct, sn, sub, ab, col, dd, k0, k1, k2, k3, k5, mN, hC, hN, hni, T⟩ := exc_obj I.kIn q
  exact wpAny_call_exc_subT F T hC hN hni (fun h' e hm => mk_of I hm r h (I.hok.gone hm.new)) (by show 0 ≤ sizeLine; exact Nat.zero_le _)
end
theorem tuple_mul1 (l : Addr) (items : Array Value) (n : Nat) (dd : Option Addr) (sl : Array (Option Value)) (u : Tok) (c1 : items.isEmpty = false) (hsz : items.size ≤ 1000) :
    Meets (Builtin.«tuple.__mul__» ⟨[.ref l, .int 1 u], []⟩) (fun _ R s => s.heap.get? l = some { cls := .type "tuple", dict := dd, data := .seq items n, slots := sl } ∧ R (.ok (.ret (Value.ref l))) s) :=
  .of_wp fun prog w A R s h => by
    obtain ⟨hp, g, d, tk, os⟩ := s
    obtain ⟨hl, h⟩ := h
    have f1 := AutoSeq1.idx_int
    wp_walk using PySem.AutoSeq1.wpAny_loadPart' hl
    exact ⟨_, rfl, h⟩
def rRepC (K : PySem.W.Frag) : R2 := fun x y H Q => ∃ (l : Addr) (k : Int) (xs : List V), x = .ref l ∧ y = .int k ∧ SqT K H l xs ∧ xs ≠ [] ∧ 1 ≤ k ∧ k ≤ 1000 ∧ xs.length ≤ 1000 ∧ ∀ p H', Same H H' → SqT K H' p (List.replicate k.toNat xs).flatten → Q (.ref p) H'
theorem op_repC {X : Cx} : OpR X (binaryOp .Mult) (rRepC X.K) := by
  intro pins s σ H x y v u Q I rx ry h
  obtain ⟨l, k, xs, rfl, rfl, hT, hne, h1, h2, hz, q⟩ := h
  by_cases hk : k = 1
  · subst hk
    cases rx
    obtain ⟨t, rfl⟩ := ry
    obtain ⟨its, r, ⟨⟨cls, dd, data, sl⟩, ho, hc, n, hd⟩, hs⟩ := I.tuple hT
    simp only at hc hd
    subst hc hd
    have hle : its.length = xs.length := r.length.symm
    have hi : its.toArray.isEmpty = false := by
      cases its with
      | nil => exact absurd (List.eq_nil_of_length_eq_zero hle.symm) hne
      | cons a b => rfl
    refine wpAny_binaryOp_repeat_ref (T := "tuple") (U := "int") (by decide) ⟨_, ho, rfl⟩ (fun s' => typeIs_int s' 1 t) noFill_tuple_mul F.fills_int_mul F.slot_int_rmul repeat_tuple F.slot_int_index.lookup
      (call_meets F.slot_int_rmul (typeIs_int s 1 t) F.entry_int_rmul (F.args_int_rmul_2 _ _) (int_rmul_tuple 1 t l its.toArray n dd sl)
        ⟨ho, rfl, ⟨_, ho, rfl⟩, call_meets F.slot_tuple_mul ⟨_, ho, rfl⟩ F.entry_tuple_mul (F.args_tuple_mul_2 _ _) (tuple_mul1 l its.toArray n dd sl t hi (by rw [List.size_toArray, hle]; exact hz)) ⟨ho, ?_⟩⟩)
    refine ⟨.ref l, H, I, rfl, q l H (Same.refl H) ?_⟩
    have e : (List.replicate (1 : Int).toNat xs).flatten = xs := by
      show (List.replicate 1 xs).flatten = xs
      simp
    rw [e]
    exact hT
  · exact op_repT pins s σ H _ _ v u Q I rx ry ⟨l, k, xs, rfl, rfl, hT, hne, by omega, h2, hz, fun p hp => q p _ (Same.new hp) (SqT.of upd_same)⟩
end E8
set_option Elab.async false
set_option linter.all false
set_option maxRecDepth 100000
/-! ET: the text by places, the scopes, what the top has written. Printed by gen.py. -/
namespace E8
open PySem L2
def topS (i : Nat) : Stmt := PySem.Challenge.pw_eighthturns_k33_whole_even_sums_turn_not.main.body.getD i (.Pass ⟨0, 0, 0, 0⟩)
abbrev s_tupled : Stmt := topS 6
abbrev s_is_number : Stmt := topS 7
abbrev s_is_count : Stmt := topS 8
abbrev s_is_below : Stmt := topS 9
abbrev s_is_tuple_of : Stmt := topS 10
abbrev s_ascends : Stmt := topS 11
abbrev s_is_number_set : Stmt := topS 12
abbrev s_parity : Stmt := topS 16
abbrev s_wire_bit : Stmt := topS 17
abbrev s_sure_few : Stmt := topS 18
abbrev s_marked_told : Stmt := topS 19
abbrev s_both_told : Stmt := topS 20
abbrev s_wires_of : Stmt := topS 21
abbrev s_marks_told : Stmt := topS 22
abbrev s_turn_by : Stmt := topS 23
abbrev s_all_turns : Stmt := topS 24
abbrev s_marked_alike : Stmt := topS 25
abbrev s_lots_of : Stmt := topS 26
abbrev s_bits_of : Stmt := topS 27
abbrev s_rest_of_lot : Stmt := topS 28
abbrev s_uneven_sum : Stmt := topS 29
abbrev s_is_uneven_sum : Stmt := topS 30
abbrev s_turns_of : Stmt := topS 31
abbrev s_times_of : Stmt := topS 32
abbrev s_plain_by : Stmt := topS 33
abbrev s_plain_marks : Stmt := topS 34
abbrev s_law_box : Stmt := topS 36
abbrev s_law_take : Stmt := topS 37
abbrev s_law_cells : Stmt := topS 38
abbrev s_law_of : Stmt := topS 39
abbrev s_law_pick : Stmt := topS 40
abbrev s_law_lists : Stmt := topS 41
abbrev s_law_same : Stmt := topS 42
abbrev s_law_subsets : Stmt := topS 43
abbrev s_law_is_number : Stmt := topS 44
abbrev s_law_par : Stmt := topS 45
abbrev s_law_ones : Stmt := topS 46
abbrev s_law_wire : Stmt := topS 47
abbrev s_law_turns : Stmt := topS 48
abbrev s_law_are_marks : Stmt := topS 49
abbrev s_law_maps : Stmt := topS 50
abbrev s_law_span : Stmt := topS 51
abbrev s_law_zero_marks : Stmt := topS 52
abbrev s_law_marks : Stmt := topS 53
abbrev s_law_added : Stmt := topS 54
abbrev s_law_lots : Stmt := topS 55
abbrev s_law_lot_bits : Stmt := topS 56
abbrev s_law_rest : Stmt := topS 57
abbrev s_law_is_plain : Stmt := topS 58
abbrev s_law_sum_told : Stmt := topS 59
abbrev s_law_sums_right : Stmt := topS 60
abbrev s_law_right : Stmt := topS 61
abbrev s_law_by_hand_right : Stmt := topS 62
abbrev s_law : Stmt := topS 63
theorem sc_tupled : FnScope ["thing", "part"] ["thing"] (defScope s_tupled) := ⟨rfl, rfl, rfl, by decide +kernel, rfl, by decide +kernel, by decide +kernel⟩
theorem sc_is_number : FnScope ["thing"] ["thing"] (defScope s_is_number) := ⟨rfl, rfl, rfl, by decide +kernel, rfl, by decide +kernel, by decide +kernel⟩
theorem sc_is_count : FnScope ["thing"] ["thing"] (defScope s_is_count) := ⟨rfl, rfl, rfl, by decide +kernel, rfl, by decide +kernel, by decide +kernel⟩
theorem sc_is_below : FnScope ["thing", "many"] ["thing", "many"] (defScope s_is_below) := ⟨rfl, rfl, rfl, by decide +kernel, rfl, by decide +kernel, by decide +kernel⟩
theorem sc_is_tuple_of : FnScope ["thing", "size"] ["thing", "size"] (defScope s_is_tuple_of) := ⟨rfl, rfl, rfl, by decide +kernel, rfl, by decide +kernel, by decide +kernel⟩
theorem sc_ascends : FnScope ["thing", "near", "far"] ["thing"] (defScope s_ascends) := ⟨rfl, rfl, rfl, by decide +kernel, rfl, by decide +kernel, by decide +kernel⟩
theorem sc_is_number_set : FnScope ["thing", "many", "part"] ["thing", "many"] (defScope s_is_number_set) := ⟨rfl, rfl, rfl, by decide +kernel, rfl, by decide +kernel, by decide +kernel⟩
theorem sc_parity : FnScope ["one", "other", "common"] ["one", "other"] (defScope s_parity) := ⟨rfl, rfl, rfl, by decide +kernel, rfl, by decide +kernel, by decide +kernel⟩
theorem sc_wire_bit : FnScope ["wires", "wire"] ["wires", "wire"] (defScope s_wire_bit) := ⟨rfl, rfl, rfl, by decide +kernel, rfl, by decide +kernel, by decide +kernel⟩
theorem sc_sure_few : FnScope ["wires"] ["wires"] (defScope s_sure_few) := ⟨rfl, rfl, rfl, by decide +kernel, rfl, by decide +kernel, by decide +kernel⟩
theorem sc_marked_told : FnScope ["marked", "own"] ["marked"] (defScope s_marked_told) := ⟨rfl, rfl, rfl, by decide +kernel, rfl, by decide +kernel, by decide +kernel⟩
theorem sc_both_told : FnScope ["one", "other", "near", "far"] ["one", "other"] (defScope s_both_told) := ⟨rfl, rfl, rfl, by decide +kernel, rfl, by decide +kernel, by decide +kernel⟩
theorem sc_wires_of : FnScope ["many"] ["many"] (defScope s_wires_of) := ⟨rfl, rfl, rfl, by decide +kernel, rfl, by decide +kernel, by decide +kernel⟩
theorem sc_marks_told : FnScope ["marks", "own"] ["marks"] (defScope s_marks_told) := ⟨rfl, rfl, rfl, by decide +kernel, rfl, by decide +kernel, by decide +kernel⟩
theorem sc_turn_by : FnScope ["marks", "place", "number", "mark"] ["marks", "place"] (defScope s_turn_by) := ⟨rfl, rfl, rfl, by decide +kernel, rfl, by decide +kernel, by decide +kernel⟩
theorem sc_all_turns : FnScope ["marks", "place"] ["marks"] (defScope s_all_turns) := ⟨rfl, rfl, rfl, by decide +kernel, rfl, by decide +kernel, by decide +kernel⟩
theorem sc_marked_alike : FnScope ["one", "other", "near", "far"] ["one", "other"] (defScope s_marked_alike) := ⟨rfl, rfl, rfl, by decide +kernel, rfl, by decide +kernel, by decide +kernel⟩
theorem sc_lots_of : FnScope ["wires", "least", "most", "found", "many"] ["wires", "least", "most"] (defScope s_lots_of) := ⟨rfl, rfl, rfl, by decide +kernel, rfl, by decide +kernel, by decide +kernel⟩
theorem sc_bits_of : FnScope ["wires", "lot", "wire"] ["wires", "lot"] (defScope s_bits_of) := ⟨rfl, rfl, rfl, by decide +kernel, rfl, by decide +kernel, by decide +kernel⟩
theorem sc_rest_of_lot : FnScope ["marks", "wires", "lot", "bits", "place", "mark"] ["marks", "wires", "lot"] (defScope s_rest_of_lot) := ⟨rfl, rfl, rfl, by decide +kernel, rfl, by decide +kernel, by decide +kernel⟩
theorem sc_uneven_sum : FnScope ["marks", "own", "wires", "lot"] ["marks"] (defScope s_uneven_sum) := ⟨rfl, rfl, rfl, by decide +kernel, rfl, by decide +kernel, by decide +kernel⟩
theorem sc_is_uneven_sum : FnScope ["marks", "thing", "own", "wires"] ["marks", "thing"] (defScope s_is_uneven_sum) := ⟨rfl, rfl, rfl, by decide +kernel, rfl, by decide +kernel, by decide +kernel⟩
theorem sc_turns_of : FnScope ["marks"] ["marks"] (defScope s_turns_of) := ⟨rfl, rfl, rfl, by decide +kernel, rfl, by decide +kernel, by decide +kernel⟩
theorem sc_times_of : FnScope ["turns", "wires", "lot", "found", "inner", "place", "at"] ["turns", "wires", "lot"] (defScope s_times_of) := ⟨rfl, rfl, rfl, by decide +kernel, rfl, by decide +kernel, by decide +kernel⟩
theorem sc_plain_by : FnScope ["turns", "wires", "found", "lot", "bits", "size", "others", "told", "place", "mark"] ["turns", "wires"] (defScope s_plain_by) := ⟨rfl, rfl, rfl, by decide +kernel, rfl, by decide +kernel, by decide +kernel⟩
theorem sc_plain_marks : FnScope ["marks", "own", "wires"] ["marks"] (defScope s_plain_marks) := ⟨rfl, rfl, rfl, by decide +kernel, rfl, by decide +kernel, by decide +kernel⟩
theorem sc_law_box : FnScope ["_law_script", "_law_k", "_law_cell_so"] ["_law_script", "_law_k"] (defScope s_law_box) := ⟨rfl, rfl, rfl, by decide +kernel, rfl, by decide +kernel, by decide +kernel⟩
theorem sc_law_take : FnScope ["_law_tin", "_law_below_so", "_law_once_so", "_law_wide_so", "_law_twice_so", "_law_drawn"] ["_law_tin", "_law_below_so"] (defScope s_law_take) := ⟨rfl, rfl, rfl, by decide +kernel, rfl, by decide +kernel, by decide +kernel⟩
theorem sc_law_cells : FnScope ["_law_script", "_law_most_so", "_law_cells_so", "_law_k", "_law_cell_so", "_law_at_so"] ["_law_script", "_law_most_so"] (defScope s_law_cells) := ⟨rfl, rfl, rfl, by decide +kernel, rfl, by decide +kernel, by decide +kernel⟩
theorem sc_law_of : FnScope ["_law_tin", "_law_goods_so"] ["_law_tin", "_law_goods_so"] (defScope s_law_of) := ⟨rfl, rfl, rfl, by decide +kernel, rfl, by decide +kernel, by decide +kernel⟩
theorem sc_law_pick : FnScope ["_law_tin", "_law_goods_so", "_law_count_so", "_law_pool_so", "_law_found", "_law_lap"] ["_law_tin", "_law_goods_so", "_law_count_so"] (defScope s_law_pick) := ⟨rfl, rfl, rfl, by decide +kernel, rfl, by decide +kernel, by decide +kernel⟩
theorem sc_law_lists : FnScope ["_law_matter", "_law_bit"] ["_law_matter"] (defScope s_law_lists) := ⟨rfl, rfl, rfl, by decide +kernel, rfl, by decide +kernel, by decide +kernel⟩
theorem sc_law_same : FnScope ["_law_got", "_law_due", "_law_mine", "_law_its"] ["_law_got", "_law_due"] (defScope s_law_same) := ⟨rfl, rfl, rfl, by decide +kernel, rfl, by decide +kernel, by decide +kernel⟩
theorem sc_law_subsets : FnScope ["_law_things_so", "_law_found", "_law_thing_so", "_law_own"] ["_law_things_so"] (defScope s_law_subsets) := ⟨rfl, rfl, rfl, by decide +kernel, rfl, by decide +kernel, by decide +kernel⟩
theorem sc_law_is_number : FnScope ["_law_own"] ["_law_own"] (defScope s_law_is_number) := ⟨rfl, rfl, rfl, by decide +kernel, rfl, by decide +kernel, by decide +kernel⟩
theorem sc_law_par : FnScope ["_law_one_so", "_law_other_so", "_law_own"] ["_law_one_so", "_law_other_so"] (defScope s_law_par) := ⟨rfl, rfl, rfl, by decide +kernel, rfl, by decide +kernel, by decide +kernel⟩
theorem sc_law_ones : FnScope ["_law_own", "_law_found"] ["_law_own"] (defScope s_law_ones) := ⟨rfl, rfl, rfl, by decide +kernel, rfl, by decide +kernel, by decide +kernel⟩
theorem sc_law_wire : FnScope ["_law_n_so", "_law_wire_so"] ["_law_n_so", "_law_wire_so"] (defScope s_law_wire) := ⟨rfl, rfl, rfl, by decide +kernel, rfl, by decide +kernel, by decide +kernel⟩
theorem sc_law_turns : FnScope ["_law_marks_so", "_law_found", "_law_x", "_law_k", "_law_own"] ["_law_marks_so"] (defScope s_law_turns) := ⟨rfl, rfl, rfl, by decide +kernel, rfl, by decide +kernel, by decide +kernel⟩
theorem sc_law_are_marks : FnScope ["_law_own", "_law_n_so", "_law_bit"] ["_law_own", "_law_n_so"] (defScope s_law_are_marks) := ⟨rfl, rfl, rfl, by decide +kernel, rfl, by decide +kernel, by decide +kernel⟩
theorem sc_law_maps : FnScope ["_law_tin", "_law_n_so", "_law_rows_so", "_law_lap", "_law_pair_so", "_law_q"] ["_law_tin", "_law_n_so"] (defScope s_law_maps) := ⟨rfl, rfl, rfl, by decide +kernel, rfl, by decide +kernel, by decide +kernel⟩
theorem sc_law_span : FnScope ["_law_rows_so", "_law_found", "_law_own", "_law_bit"] ["_law_rows_so"] (defScope s_law_span) := ⟨rfl, rfl, rfl, by decide +kernel, rfl, by decide +kernel, by decide +kernel⟩
theorem sc_law_zero_marks : FnScope ["_law_tin", "_law_n_so", "_law_found", "_law_lap", "_law_size_so", "_law_rows_so", "_law_times_so", "_law_own"] ["_law_tin", "_law_n_so"] (defScope s_law_zero_marks) := ⟨rfl, rfl, rfl, by decide +kernel, rfl, by decide +kernel, by decide +kernel⟩
theorem sc_law_marks : FnScope ["_law_tin", "_law_n_so", "_law_kind_so", "_law_size_so", "_law_found", "_law_lap", "_law_k"] ["_law_tin", "_law_n_so"] (defScope s_law_marks) := ⟨rfl, rfl, rfl, by decide +kernel, rfl, by decide +kernel, by decide +kernel⟩
theorem sc_law_added : FnScope ["_law_one_so", "_law_other_so", "_law_times_so", "_law_own", "_law_its"] ["_law_one_so", "_law_other_so", "_law_times_so"] (defScope s_law_added) := ⟨rfl, rfl, rfl, by decide +kernel, rfl, by decide +kernel, by decide +kernel⟩
theorem sc_law_lots : FnScope ["_law_n_so", "_law_least_so", "_law_most_so", "_law_found", "_law_own"] ["_law_n_so", "_law_least_so", "_law_most_so"] (defScope s_law_lots) := ⟨rfl, rfl, rfl, by decide +kernel, rfl, by decide +kernel, by decide +kernel⟩
theorem sc_law_lot_bits : FnScope ["_law_n_so", "_law_lot_so", "_law_q"] ["_law_n_so", "_law_lot_so"] (defScope s_law_lot_bits) := ⟨rfl, rfl, rfl, by decide +kernel, rfl, by decide +kernel, by decide +kernel⟩
theorem sc_law_rest : FnScope ["_law_marks_so", "_law_n_so", "_law_lot_so", "_law_bits_so", "_law_k", "_law_own"] ["_law_marks_so", "_law_n_so", "_law_lot_so"] (defScope s_law_rest) := ⟨rfl, rfl, rfl, by decide +kernel, rfl, by decide +kernel, by decide +kernel⟩
theorem sc_law_is_plain : FnScope ["_law_own", "_law_k", "_law_mark_so", "_law_bits_so"] ["_law_own"] (defScope s_law_is_plain) := ⟨rfl, rfl, rfl, by decide +kernel, rfl, by decide +kernel, by decide +kernel⟩
theorem sc_law_sum_told : FnScope ["_law_marks_so", "_law_told_so"] ["_law_marks_so"] (defScope s_law_sum_told) := ⟨rfl, rfl, rfl, by decide +kernel, rfl, by decide +kernel, by decide +kernel⟩
theorem sc_law_sums_right : FnScope ["_law_tin", "_law_marks_so", "_law_n_so", "_law_turns_so", "_law_due", "_law_lot_so", "_law_rest_so", "_law_got"] ["_law_tin", "_law_marks_so", "_law_n_so", "_law_turns_so"] (defScope s_law_sums_right) := ⟨rfl, rfl, rfl, by decide +kernel, rfl, by decide +kernel, by decide +kernel⟩
theorem sc_law_right : FnScope ["_law_tin", "_law_n", "_law_marks_so", "_law_zero_so", "_law_turns_so", "_law_alike_so", "_law_other_so", "_law_k", "_law_maps_so", "_law_turn_so", "_law_flips_so", "_law_own", "_law_got", "_law_plain_so"] ["_law_tin"] (defScope s_law_right) := ⟨rfl, rfl, rfl, by decide +kernel, rfl, by decide +kernel, by decide +kernel⟩
theorem sc_law_by_hand_right : FnScope ["_law_quad", "_law_got"] [] (defScope s_law_by_hand_right) := ⟨rfl, rfl, rfl, by decide +kernel, rfl, by decide +kernel, by decide +kernel⟩
theorem sc_law : FnScope ["_law_script"] ["_law_script"] (defScope s_law) := ⟨rfl, rfl, rfl, by decide +kernel, rfl, by decide +kernel, by decide +kernel⟩
/-- a def of the text where the top has put it -/
structure Df (K : PySem.W.Frag) (mg : Str → Option Value) (x : Str) (st : Stmt) (ps : List Str) where
  f : Addr
  fd : FuncData
  F : Fun K x x st f fd
  m : mg x = some (.ref f)
  b : Binds K fd ps []
structure Txt (K : PySem.W.Frag) (mg : Str → Option Value) where
  tupled : Df K mg "tupled" s_tupled ["thing"]
  is_number : Df K mg "is_number" s_is_number ["thing"]
  is_count : Df K mg "is_count" s_is_count ["thing"]
  is_below : Df K mg "is_below" s_is_below ["thing", "many"]
  is_tuple_of : Df K mg "is_tuple_of" s_is_tuple_of ["thing", "size"]
  ascends : Df K mg "ascends" s_ascends ["thing"]
  is_number_set : Df K mg "is_number_set" s_is_number_set ["thing", "many"]
  parity : Df K mg "parity" s_parity ["one", "other"]
  wire_bit : Df K mg "wire_bit" s_wire_bit ["wires", "wire"]
  sure_few : Df K mg "sure_few" s_sure_few ["wires"]
  marked_told : Df K mg "marked_told" s_marked_told ["marked"]
  both_told : Df K mg "both_told" s_both_told ["one", "other"]
  wires_of : Df K mg "wires_of" s_wires_of ["many"]
  marks_told : Df K mg "marks_told" s_marks_told ["marks"]
  turn_by : Df K mg "turn_by" s_turn_by ["marks", "place"]
  all_turns : Df K mg "all_turns" s_all_turns ["marks"]
  marked_alike : Df K mg "marked_alike" s_marked_alike ["one", "other"]
  lots_of : Df K mg "lots_of" s_lots_of ["wires", "least", "most"]
  bits_of : Df K mg "bits_of" s_bits_of ["wires", "lot"]
  rest_of_lot : Df K mg "rest_of_lot" s_rest_of_lot ["marks", "wires", "lot"]
  uneven_sum : Df K mg "uneven_sum" s_uneven_sum ["marks"]
  is_uneven_sum : Df K mg "is_uneven_sum" s_is_uneven_sum ["marks", "thing"]
  turns_of : Df K mg "turns_of" s_turns_of ["marks"]
  times_of : Df K mg "times_of" s_times_of ["turns", "wires", "lot"]
  plain_by : Df K mg "plain_by" s_plain_by ["turns", "wires"]
  plain_marks : Df K mg "plain_marks" s_plain_marks ["marks"]
  law_box : Df K mg "_law_box" s_law_box ["_law_script", "_law_k"]
  law_take : Df K mg "_law_take" s_law_take ["_law_tin", "_law_below_so"]
  law_cells : Df K mg "_law_cells" s_law_cells ["_law_script", "_law_most_so"]
  law_of : Df K mg "_law_of" s_law_of ["_law_tin", "_law_goods_so"]
  law_pick : Df K mg "_law_pick" s_law_pick ["_law_tin", "_law_goods_so", "_law_count_so"]
  law_lists : Df K mg "_law_lists" s_law_lists ["_law_matter"]
  law_same : Df K mg "_law_same" s_law_same ["_law_got", "_law_due"]
  law_subsets : Df K mg "_law_subsets" s_law_subsets ["_law_things_so"]
  law_is_number : Df K mg "_law_is_number" s_law_is_number ["_law_own"]
  law_par : Df K mg "_law_par" s_law_par ["_law_one_so", "_law_other_so"]
  law_ones : Df K mg "_law_ones" s_law_ones ["_law_own"]
  law_wire : Df K mg "_law_wire" s_law_wire ["_law_n_so", "_law_wire_so"]
  law_turns : Df K mg "_law_turns" s_law_turns ["_law_marks_so"]
  law_are_marks : Df K mg "_law_are_marks" s_law_are_marks ["_law_own", "_law_n_so"]
  law_maps : Df K mg "_law_maps" s_law_maps ["_law_tin", "_law_n_so"]
  law_span : Df K mg "_law_span" s_law_span ["_law_rows_so"]
  law_zero_marks : Df K mg "_law_zero_marks" s_law_zero_marks ["_law_tin", "_law_n_so"]
  law_marks : Df K mg "_law_marks" s_law_marks ["_law_tin", "_law_n_so"]
  law_added : Df K mg "_law_added" s_law_added ["_law_one_so", "_law_other_so", "_law_times_so"]
  law_lots : Df K mg "_law_lots" s_law_lots ["_law_n_so", "_law_least_so", "_law_most_so"]
  law_lot_bits : Df K mg "_law_lot_bits" s_law_lot_bits ["_law_n_so", "_law_lot_so"]
  law_rest : Df K mg "_law_rest" s_law_rest ["_law_marks_so", "_law_n_so", "_law_lot_so"]
  law_is_plain : Df K mg "_law_is_plain" s_law_is_plain ["_law_own"]
  law_sum_told : Df K mg "_law_sum_told" s_law_sum_told ["_law_marks_so"]
  law_sums_right : Df K mg "_law_sums_right" s_law_sums_right ["_law_tin", "_law_marks_so", "_law_n_so", "_law_turns_so"]
  law_right : Df K mg "_law_right" s_law_right ["_law_tin"]
  law_by_hand_right : Df K mg "_law_by_hand_right" s_law_by_hand_right []
  law : Df K mg "law" s_law ["_law_script"]
  z_int : mg "int" = none
  z_bool : mg "bool" = none
  z_list : mg "list" = none
  z_tuple : mg "tuple" = none
  z_str : mg "str" = none
  z_isinstance : mg "isinstance" = none
  z_len : mg "len" = none
  z_all : mg "all" = none
  z_zip : mg "zip" = none
  z_sum : mg "sum" = none
  z_enumerate : mg "enumerate" = none
  z_range : mg "range" = none
  z_abs : mg "abs" = none
  z_min : mg "min" = none
  z_sorted : mg "sorted" = none
  tFULL : Tok
  gFULL : mg "FULL" = some (.int 8 tFULL)
  tMOST : Tok
  gMOST : mg "MOST_WIRES" = some (.int 5 tMOST)
  gComb : mg "combinations" = some (.type "itertools.combinations")
  NP : Addr
  gNP : mg "NoPaper" = some (.ref NP)
  xNP : PySem.W.excIn K NP [.type "ValueError", .type "Exception", .type "BaseException", .type "object"] "ValueError.__new__" = true
  kNP : PySem.W.keepIn K (.ref NP) = true
  bNP : PySem.W.subIn K (.ref NP) (.type "BaseException") = some true
  tNP : PySem.W.typeIn K (.ref NP) = some (.type "type")
  eNP : PySem.W.exmOne K (.ref NP) (.ref NP) = some true
end E8
set_option Elab.async false
set_option linter.all false
set_option maxRecDepth 100000
/-! EB11: walks of a list or a tuple; len by name. -/
namespace E8
open PySem PySem.Spec PyProof.Rows L2
section
variable {X : Cx} {tg : Expr}
def iSeq (K : PySem.W.Frag) (tl : TE) : TI := fun σ H R => tl σ H fun x H1 => ∃ a, x = .ref a ∧ (((∃ xs, SqL K H1 a xs) ∧ R (Itl K a) H1) ∨ ((∃ xs, SqT K H1 a xs) ∧ R (Itt K a) H1))
theorem pi_seq {l : Expr} {tl : TE} (hl : PE X l tl) : PI X tg l (iSeq X.K tl) := by
  refine ⟨fun pins s σ H R I h => thn (hl.run pins s σ H _ I h) fun v s1 ⟨x, H1, I1, r1, a, e, q⟩ => ?_⟩
  subst e
  cases r1
  have fp : ∀ b ∈ [s1.heap.objs.size], FpOk X pins H1 b := fun b hb => by
    rw [List.mem_singleton.mp hb]
    exact I1.fpOk (Nat.le_refl _) (I1.hok.fresh (Nat.le_refl _))
  rcases q with ⟨⟨xs, hq⟩, q⟩ | ⟨⟨xs, hq⟩, q⟩
  · obtain ⟨its, rv, p, hz⟩ := I1.list hq
    exact wpAny_pyIter_list p.isList ⟨_, [s1.heap.objs.size], _, _, H1, rfl, I1.kept (t' := s1.toks) fun b o e => Heap.get?_push_of_some _ e, turn_list a _, ⟨_, Heap.get?_push_size _ rfl, rfl, rfl⟩, fp, q⟩
  · obtain ⟨its, rv, p, hz⟩ := I1.tuple hq
    exact wpAny_pyIter_tuple (show s1.heap.IsTuple a its.toArray from p) ⟨_, [s1.heap.objs.size], _, _, H1, rfl, I1.kept (t' := s1.toks) fun b o e => Heap.get?_push_of_some _ e, turn_tuple a _, ⟨_, Heap.get?_push_size _ rfl, rfl, rfl⟩, fp, q⟩
def iEnumA (K : PySem.W.Frag) (ta : TA) : TI := fun σ H R => ta σ H fun vs H1 => ∃ a xs, vs = [.ref a] ∧ ((SqL K H1 a xs ∧ R (Ite K a) H1) ∨ (SqT K H1 a xs ∧ R (IteT K a xs) H1))
theorem pi_enumA {e : Expr} {ta : TA} {p pos tpos : Pos} {elts : List Expr} {kk : Nat} (hg : Gl X "enumerate") (hm : X.mg "enumerate" = none) (ha : PA X [e] ta) (hs : starEach [e] X.env = [(false, eval e X.env)] := by rfl) :
    PI X (.Tuple elts kk tpos) (.Call (.Name "enumerate" p) [e] [] pos) (iEnumA X.K ta) := by
  refine ⟨fun pins s σ H R I hq => ?_⟩
  refine Call_ (ld_blt I hg hm boot_enumerate (PyProof.Rows.callWith_type1 (thn (ha.run pos pins s σ H _ I hq) fun us s1 ⟨vs, H1, I1, r1, a, xs, ex, q⟩ => ?_) hs rfl))
  subst ex
  cases r1 with
  | cons r rr =>
    cases rr
    cases r
    have fp : ∀ b ∈ [s1.heap.objs.size + 1, s1.heap.objs.size], FpOk X pins H1 b := fun b hb => by
      have hle : s1.heap.objs.size ≤ b := (mem2 hb).elim (fun z => by rw [z]; exact Nat.le_add_right _ _) fun z => Nat.le_of_eq z.symm
      exact I1.fpOk hle (I1.hok.fresh hle)
    rcases q with ⟨hT, q⟩ | ⟨hT, q⟩
    · obtain ⟨its, rv, p', hz⟩ := I1.list hT
      exact call_enumerate_list p'.isList fun h' he hit hsz hk => wpAny_pyIter_enum he ⟨_, _, _, _, H1, rfl, I1.kept (t' := s1.toks) hk, turn_enum a (s1.heap.objs.size + 1) s1.heap.objs.size, ⟨⟨.none, he⟩, hit, Nat.succ_ne_self _⟩, fp, q⟩
    · obtain ⟨its, rv, p', hz⟩ := I1.tuple hT
      obtain ⟨oT, hoT, _⟩ := id p'
      have la : a < s1.heap.objs.size := Heap.lt_size hoT
      exact enT_call (show s1.heap.IsTuple a its.toArray from p') fun h' he hit hk => wpAny_pyIter_enum he ⟨_, _, _, _, H1, rfl, I1.kept (t' := s1.toks) hk, turn_enumT a (s1.heap.objs.size + 1) s1.heap.objs.size xs (Nat.ne_of_lt (Nat.lt_succ_of_lt la)) (Nat.ne_of_lt la), ⟨⟨.none, he⟩, hit, Nat.succ_ne_self _⟩, fp, q⟩
/-- len of a list, a tuple -/
def rLenC (K : PySem.W.Frag) : List V → Hp → VK → Prop := fun xs H Q => ∃ p ys, xs = [.ref p] ∧ (SqL K H p ys ∨ SqT K H p ys) ∧ Q (.int (ys.length : Nat)) H
theorem call_lenC : CallR X (.builtin "len") (rLenC X.K) := call_len_seq
end
end E8
set_option Elab.async false
set_option linter.all false
set_option maxRecDepth 100000
/-! D1: parity, wire_bit, wires_of, turn_by, all_turns. -/
namespace E8
open PySem PySem.Spec PyProof.Rows L2
section
variable {P : Program} {w : World} {K : PySem.W.Frag} {mg : Str → Option Value} {base : Heap}
def spPar : Sp := fun vs H Q _ => ∃ a b : Nat, vs = [.int a, .int b] ∧ Q (.int (par a b : Nat)) H
theorem ok_parity (T : Txt K mg) : FnOk P w K mg base CX0 1 T.parity.f T.parity.fd ["one", "other"] spPar := by
  refine T.parity.F.ok sc_parity (fun vs H Q E h => ?_) (fun cdv A outer s H vs Q E hr h => ?_)
  · obtain ⟨a, b, rfl, _⟩ := h; rfl
  · obtain ⟨a, b, rfl, k⟩ := h
    refine ⟨_, (pss_cons (ps_set (i := 2) sc_parity.nd rfl (Or.inl rfl) (pe_op op_andC (pv 0) (pv 1)))
      (pss_cons (ps_aug (i := 2) sc_parity.nd rfl (Or.inl rfl) (pe_op op_shrC (pv 2) pe_int) iop_xorC)
      (pss_cons (ps_aug (i := 2) sc_parity.nd rfl (Or.inl rfl) (pe_op op_shrC (pv 2) pe_int) iop_xorC)
      (pss_one (ps_ret (pe_op op_andC (pe_op op_xorC (pv 2) (pe_op op_shrC (pv 2) pe_int)) pe_int)))))), ?_⟩
    refine ⟨_, rfl, _, rfl, a, b, rfl, rfl, ?_⟩
    refine ⟨_, rfl, _, rfl, _, 4, rfl, rfl, _, _, rfl, rfl, ?_⟩
    refine ⟨_, rfl, _, rfl, _, 2, rfl, rfl, _, _, rfl, rfl, ?_⟩
    refine ⟨_, rfl, _, rfl, _, 1, rfl, rfl, _, _, rfl, rfl, _, 1, rfl, rfl, ?_⟩
    dsimp only
    rw [Nat.and_one_is_mod]
    exact k
def spWb : Sp := fun vs H Q _ => ∃ n q : Nat, vs = [.int n, .int q] ∧ q < n ∧ n ≤ 100 ∧ Q (.int (wbit n q : Nat)) H
theorem ok_wire_bit (T : Txt K mg) : FnOk P w K mg base CX0 1 T.wire_bit.f T.wire_bit.fd ["wires", "wire"] spWb := by
  refine T.wire_bit.F.ok sc_wire_bit (fun vs H Q E h => ?_) (fun cdv A outer s H vs Q E hr h => ?_)
  · obtain ⟨a, b, rfl, _⟩ := h; rfl
  · obtain ⟨n, q, rfl, h1, h2, k⟩ := h
    refine ⟨_, (pss_one (ps_ret (pe_op op_shlC pe_int (pe_op op_sub (pe_op op_sub (pv 0) pe_int) (pv 1))))), ?_⟩
    have e : (n : Int) - 1 - q = ((n - 1 - q : Nat) : Int) := by omega
    refine ⟨_, rfl, _, _, rfl, rfl, _, rfl, _, _, rfl, rfl, 1, n - 1 - q, rfl, congrArg V.int e, by decide, by omega, ?_⟩
    show Q (.int ((1 * 2 ^ (n - 1 - q) : Nat) : Int)) H
    rw [Nat.one_mul]
    exact k
/-- many.bit_length() - 1 of 2 ^ n -/
def spWo : Sp := fun vs H Q _ => ∃ n : Nat, vs = [.int ((2 ^ n : Nat) : Int)] ∧ n ≤ 100 ∧ Q (.int n) H
theorem bits_pow (n : Nat) : Builtin.Int.intBits ((2 ^ n : Nat) : Int) = n + 1 := by
  have hp : 0 < 2 ^ n := Nat.two_pow_pos n
  have h0 : (((2 ^ n : Nat) : Int) == 0) = false := beq_eq_false_iff_ne.mpr (by omega)
  unfold Builtin.Int.intBits
  rw [h0, if_neg Bool.false_ne_true, Int.natAbs_natCast, Nat.log2_two_pow]
theorem ok_wires_of (T : Txt K mg) : FnOk P w K mg base CX0 1 T.wires_of.f T.wires_of.fd ["many"] spWo := by
  refine T.wires_of.F.ok sc_wires_of (fun vs H Q E h => ?_) (fun cdv A outer s H vs Q E hr h => ?_)
  · obtain ⟨a, rfl, _⟩ := h; rfl
  · obtain ⟨n, rfl, h2, k⟩ := h
    refine ⟨_, (pss_one (ps_ret (pe_op op_sub (pe_bits (pv 0)) pe_int))), ?_⟩
    refine ⟨_, rfl, _, rfl, _, _, rfl, rfl, ?_⟩
    dsimp only
    rw [bits_pow, show ((n + 1 : Nat) : Int) - 1 = n by omega]
    exact k
/-- what of an int list or tuple is added up by number -/
def pick (f : Nat → Int → Option Int) (ms : List Int) (i : Nat) : List Int := (List.range i).filterMap fun j => f j (ms.getD j 0)
theorem pick_succ (f : Nat → Int → Option Int) (ms : List Int) (i : Nat) : pick f ms (i + 1) = pick f ms i ++ (f i (ms.getD i 0)).toList := by
  unfold pick
  rw [List.range_succ, List.filterMap_append, List.filterMap_cons, List.filterMap_nil]
  cases f i (ms.getD i 0) <;> rfl
theorem pick_le (f : Nat → Int → Option Int) (ms : List Int) (i : Nat) : (pick f ms i).length ≤ i := by
  have h := List.length_filterMap_le (fun j => f j (ms.getD j 0)) (List.range i)
  rw [List.length_range] at h
  exact h
theorem esum_append (g : Nat → Int → Int) : ∀ (a b : List Int) (k : Nat), esum g k (a ++ b) = esum g k a + esum g (k + a.length) b
  | [], b, k => by simp [esum]
  | x :: a, b, k => by
    have ih := esum_append g a b (k + 1)
    simp only [List.cons_append, esum, ih, List.length_cons]
    rw [show k + 1 + a.length = k + (a.length + 1) by omega]
    omega
theorem pick_sum (f : Nat → Int → Option Int) (ms : List Int) : ∀ i, i ≤ ms.length → (pick f ms i).sum = esum (fun k m => (f k m).getD 0) 0 (ms.take i)
  | 0, _ => by simp [pick, esum]
  | i + 1, h => by
    have ih := pick_sum f ms i (by omega)
    have hi : i < ms.length := by omega
    have e1 : ms.getD i 0 = ms[i] := by rw [List.getD_eq_getElem?_getD, List.getElem?_eq_getElem hi]; rfl
    rw [pick_succ, List.sum_append, ih, List.take_succ_eq_append_getElem hi, esum_append, e1]
    congr 1
    have e2 : (ms.take i).length = i := by rw [List.length_take]; omega
    rw [e2, Nat.zero_add]
    cases e3 : f i ms[i] with
    | none => simp [esum, e3]
    | some v => simp [esum, e3]
theorem pick_all (f : Nat → Int → Option Int) (ms : List Int) : (pick f ms ms.length).sum = esum (fun k m => (f k m).getD 0) 0 ms := by
  rw [pick_sum f ms _ (Nat.le_refl _), List.take_length]
theorem par_le (a b : Nat) : par a b ≤ 1 := by
  unfold par fold8
  exact Nat.le_of_lt_succ (Nat.mod_lt _ (by decide))
theorem ints_at {ms : List Int} {i : Nat} {b : V} (h : (ms.map V.int)[i]? = some b) : b = .int (ms.getD i 0) ∧ i < ms.length := by
  rw [List.getElem?_map] at h
  cases e : ms[i]? with
  | none => rw [e] at h; cases h
  | some m =>
    rw [e] at h
    rw [List.getD_eq_getElem?_getD, e]
    exact ⟨(Option.some.inj h).symm, (List.getElem?_eq_some_iff.mp e).1⟩
def turnF (x : Nat) (k : Nat) (m : Int) : Option Int := if m ≠ 0 then some (m * (par (k + 1) x : Nat)) else none
theorem turnF_sum (x : Nat) (ms : List Int) : (pick (turnF x) ms ms.length).sum % 8 = turnM ms x := by
  rw [pick_all]
  unfold turnM dot
  congr 1
  refine esum_congr ms 0 fun j m _ _ => ?_
  unfold turnF
  by_cases h : m = 0
  · rw [if_neg (by simpa using h), h, Int.zero_mul]; rfl
  · rw [if_pos h]; rfl
def spTb (K : PySem.W.Frag) : Sp := fun vs H Q _ => ∃ (a : Addr) (ms : List Int) (x : Nat), vs = [.ref a, .int x] ∧ SqT K H a (ms.map V.int) ∧ ms.length ≤ 1000 ∧ ∀ H', Same H H' → Q (.int (turnM ms x)) H'
theorem ok_turn_by (T : Txt K mg) : FnOk P w K mg base CX0 2 T.turn_by.f T.turn_by.fd ["marks", "place"] (spTb K) := by
  refine T.turn_by.F.ok sc_turn_by (fun vs H Q E h => ?_) (fun cdv A outer s H vs Q E hr h => ?_)
  · obtain ⟨a, ms, x, rfl, _⟩ := h; rfl
  · obtain ⟨a, ms, x, rfl, hT, hl, k⟩ := h
    refine ⟨_, (pss_one (ps_ret (pe_op op_mod (pe_callB (cr_sum rfl) (by rfl) T.z_sum (by decide +kernel) (pa_cons (pe_lc (own := [("number", 2), ("mark", 3)]) (g := gTup K 2 (gCons (gName 2) (gCons (gName 3) (gNil)))) rfl sc_turn_by.nd (pi_enumT rfl T.z_enumerate (pa_cons (pv 0) pa_nil)) (blkOk_by (N := ["marks", "place", "number", "mark"]) (sc := defScope s_turn_by) (by decide +kernel)) (fun _ _ _ _ _ => (pg_tup rfl (pgs_cons (pg_name (i := 2) sc_turn_by.nd rfl (Or.inl rfl)) (pgs_cons (pg_name (i := 3) sc_turn_by.nd rfl (Or.inl rfl)) pgs_nil)))) (fun _ _ _ _ _ => (pts_one (pt_cmpR op_ne (pv 3) pe_int (nomark _)))) (fun _ _ _ _ _ => (pe_op op_mul (pv 3) (pe_call (ok_parity T) (hr.mono (by decide)) rfl T.parity.m T.parity.F.kp T.parity.b .nil pass0 (pa_cons (pe_op op_add (pv 2) pe_int) (pa_cons (pv 1) pa_nil)))))) pa_nil)) (pe_glob (v := .int 8) rfl T.gFULL ⟨_, rfl⟩)))), ?_⟩
    refine ⟨_, rfl, a, _, rfl, hT, fun D hD => ?_⟩
    refine lc_pure walk_enumT (fun i => (pick (turnF x) ms i).map V.int) (by rw [List.length_map]; omega) hD rfl (fun i _ => by rw [List.length_map]; exact pick_le _ _ _) (fun H1 e => Same.tup e hT) ?_ ?_
    · rintro i v H1 H2 hi sm ⟨T1, b1, b2, rfl, hn, rfl, e1, e2⟩ yes no ky kn
      obtain ⟨rfl, hi2⟩ := ints_at e2
      cases Option.some.inj e1
      refine ⟨T1, _, rfl, SqT.of upd_same, rfl, _, _, rfl, _, _, rfl, rfl, rfl, ?_⟩
      refine ⟨_, rfl, rfl, _, rfl, ?_⟩
      have ea := pick_succ (turnF x) ms i
      by_cases hz : ms.getD i 0 = 0
      · rw [decide_eq_true (by rw [hz])]
        refine kn _ (Same.new hn) ?_
        rw [ea, show turnF x i (ms.getD i 0) = none from if_neg (by simpa using hz)]
        simp
      · rw [decide_eq_false (by intro q; exact hz (V.int.inj q))]
        refine ⟨_, rfl, _, rfl, _, _, rfl, rfl, _, rfl, i + 1, x, rfl, _, _, rfl, rfl, .inr ⟨by omega, ?_⟩, ?_⟩
        · have := par_le (i + 1) x
          omega
        · refine ky _ _ (Same.new hn) ?_
          rw [ea, show turnF x i (ms.getD i 0) = some _ from if_pos hz]
          simp
    · intro H1 e1 e2
      rw [List.length_map] at e2
      refine ⟨D, _, rfl, SqL.of e2, _, _, rfl, rfl, (by show (0 : Int) < 8; decide), ?_⟩
      show Q (.int ((pick (turnF x) ms ms.length).sum % 8)) H1
      rw [turnF_sum]
      exact k H1 e1
def spAt (K : PySem.W.Frag) : Sp := fun vs H Q _ => ∃ (a : Addr) (ms : List Int), vs = [.ref a] ∧ SqT K H a (ms.map V.int) ∧ ms.length ≤ 1000 ∧ ∀ H' p, Same H H' → H p = none → H' p = some (.tup ((turnsM ms).map V.int)) → Q (.ref p) H'
theorem ok_all_turns (T : Txt K mg) : FnOk P w K mg base CX0 3 T.all_turns.f T.all_turns.fd ["marks"] (spAt K) := by
  refine T.all_turns.F.ok sc_all_turns (fun vs H Q E h => ?_) (fun cdv A outer s H vs Q E hr h => ?_)
  · obtain ⟨a, ms, rfl, _⟩ := h; rfl
  · obtain ⟨a, ms, rfl, hT, hl, k⟩ := h
    refine ⟨_, (pss_one (ps_ret (pe_callTy call_tuple_of (by rfl) T.z_tuple (by decide +kernel) (pa_cons (pe_lc (own := [("place", 1)]) (g := gName 1) (tt := tYes) rfl sc_all_turns.nd (pi_range1 rfl T.z_range (pa_cons (pe_op op_add (pe_callB call_lenC (by rfl) T.z_len (by decide +kernel) (pa_cons (pv 0) pa_nil)) pe_int) pa_nil)) (blkOk_by (N := ["marks", "place"]) (sc := defScope s_all_turns) (by decide +kernel)) (fun _ _ _ _ _ => (pg_name (i := 1) sc_all_turns.nd rfl (Or.inl rfl))) (fun _ _ _ _ _ => pts_nil) (fun _ _ _ _ _ => (pe_call (ok_turn_by T) (hr.mono (by decide)) rfl T.turn_by.m T.turn_by.F.kp T.turn_by.b .nil pass0 (pa_cons (pv 0) (pa_cons (pv 1) pa_nil))))) pa_nil)))), ?_⟩
    refine ⟨_, rfl, a, _, rfl, .inr hT, _, _, rfl, rfl, _, rfl, ?_, ?_, fun D hD => ?_⟩
    · rw [List.length_map]; omega
    · rw [List.length_map]; omega
    have hn : (((List.map V.int ms).length : Nat) + 1 : Int).toNat = ms.length + 1 := by rw [List.length_map]; omega
    refine lc_pure (n := ms.length + 1) (by rw [← hn]; exact walk_range) (fun i => ((List.range i).map (turnM ms)).map V.int) (by omega) hD rfl (fun i _ => by simp) (fun H1 e => trivial) ?_ ?_
    · rintro i v H1 H2 hi sm ⟨rfl, rfl⟩ yes no ky kn
      refine ⟨rfl, ?_⟩
      refine ⟨_, rfl, _, rfl, a, ms, i, by simp, Same.tup sm hT, hl, fun H3 s3 => ky _ _ s3 ?_⟩
      rw [List.range_succ, List.map_append, List.map_append]
      rfl
    · intro H1 e1 e2
      refine ⟨D, _, rfl, .inl ⟨SqL.of e2, fun l hl2 => ?_⟩⟩
      exact k _ l (e1.trans (Same.new hl2)) (Same.free e1 hl2) upd_same
end
end E8
set_option Elab.async false
set_option linter.all false
set_option maxRecDepth 100000
/-! D2: bits_of, rest_of_lot, lots_of. -/
namespace E8
open PySem PySem.Spec PyProof.Rows L2 E8C
/-! ### sets of wires as data -/
def lotI (c : List Nat) : List Int := c.map fun (q : Nat) => (q : Int)
def lotV (c : List Nat) : List V := (lotI c).map V.int
def lotD (c : List Nat) : PyData := .tuple (dInts (lotI c))
theorem lotV_eq (c : List Nat) : c.map (fun (q : Nat) => V.int q) = lotV c := by
  unfold lotV lotI
  rw [List.map_map]
  rfl
theorem lotV_len (c : List Nat) : (lotV c).length = c.length := by
  unfold lotV lotI
  rw [List.length_map, List.length_map]
theorem lotV_at {c : List Nat} {i : Nat} {x : V} (h : (lotV c)[i]? = some x) : ∃ q, c[i]? = some q ∧ x = .int q := by
  rw [← lotV_eq, List.getElem?_map] at h
  cases e : c[i]? with
  | none => rw [e] at h; cases h
  | some q =>
    rw [e] at h
    exact ⟨q, rfl, (Option.some.inj h).symm⟩
theorem dpLot {K : PySem.W.Frag} {H : Hp} {a : Addr} {c : List Nat} (h : SqT K H a (lotV c)) : Dp K H (.ref a) (lotD c) := dpTupI h
theorem dpLot_inv {K : PySem.W.Frag} {H : Hp} {v : V} {c : List Nat} (h : Dp K H v (lotD c)) : ∃ a, v = .ref a ∧ SqT K H a (lotV c) := dpTupI_inv h
theorem dpAll_of {K : PySem.W.Frag} {H : Hp} : ∀ {xs : List V} {ds : List PyData}, xs.length = ds.length → (∀ (j : Nat) (d : PyData), ds[j]? = some d → ∃ x, xs[j]? = some x ∧ Dp K H x d) → DpAll K H xs ds
  | [], [], _, _ => .nil
  | [], _ :: _, h, _ => by cases h
  | _ :: _, [], h, _ => by cases h
  | x :: xs, d :: ds, h, f => by
    obtain ⟨y, e, q⟩ := f 0 d rfl
    cases Option.some.inj e
    exact .cons q (dpAll_of (by simpa using h) fun j d' hj => f (j + 1) d' hj)
/-- a list that is changed is no tuple -/
theorem SqT.mut {K : PySem.W.Frag} {H H' : Hp} {a l : Addr} {xs ys : List V} (hl : H l = some (.lst ys)) (k : Keep l H H') (h : SqT K H a xs) : SqT K H' a xs := by
  rcases h with (h | ⟨o, h⟩) | h
  · exact .inl (.inl (k _ _ (ne_of h hl (by intro z; cases z)) h))
  · exact .inl (.inr ⟨o, k _ _ (ne_of h hl (by intro z; cases z)) h⟩)
  · exact .inr h
theorem dpLots_mut {K : PySem.W.Frag} {H H' : Hp} {l : Addr} {ys : List V} (hl : H l = some (.lst ys)) (k : Keep l H H') : ∀ {xs : List V} {cs : List (List Nat)}, DpAll K H xs (cs.map lotD) → DpAll K H' xs (cs.map lotD)
  | [], cs, h => by
    cases cs with
    | nil => exact .nil
    | cons c r => cases h
  | x :: xs, cs, h => by
    cases cs with
    | nil => cases h
    | cons c r =>
      cases h with
      | cons h1 h2 =>
        obtain ⟨a, rfl, q⟩ := dpLot_inv h1
        exact .cons (dpLot (SqT.mut hl k q)) (dpLots_mut hl k h2)
/-! ### the walk of combinations -/
def chainB (n : Nat) : List Nat → List (List Nat) → Bool
  | c, [] => (nextC n c).isNone
  | c, d :: r => nextC n c == some d && chainB n d r
theorem chain_of {n : Nat} : ∀ {c : List Nat} {r : List (List Nat)}, chainB n c r = true → Chain n c r
  | c, [], h => Option.isNone_iff_eq_none.mp h
  | c, d :: r, h => by
    unfold chainB at h
    rw [Bool.and_eq_true] at h
    exact ⟨by simpa using h.1, chain_of h.2⟩
def combOk (n m : Nat) : Bool := (if m > n then (choose (List.range n) m).isEmpty else match choose (List.range n) m with | c :: r => c == List.range m && chainB n c r | [] => false) &&
  (choose (List.range n) m).all (fun c => decide (c.length = m) && c.all fun i => decide (i < n)) && decide ((choose (List.range n) m).length ≤ 100)
theorem comb_ok : ∀ n, n ≤ 5 → ∀ m, m ≤ 5 → combOk n m = true := by decide +kernel
theorem comb_walk {n m : Nat} (hn : n ≤ 5) (hm : m ≤ 5) : (if m > n then choose (List.range n) m = [] else ∃ r, choose (List.range n) m = List.range m :: r ∧ Chain n (List.range m) r) := by
  have h := comb_ok n hn m hm
  unfold combOk at h
  rw [Bool.and_eq_true, Bool.and_eq_true] at h
  have h1 := h.1.1
  split at h1
  · rename_i hk
    rw [if_pos hk]
    exact List.isEmpty_iff.mp h1
  · rename_i hk
    rw [if_neg hk]
    split at h1
    · rename_i c r e
      rw [Bool.and_eq_true] at h1
      have e1 : c = List.range m := by simpa using h1.1
      subst e1
      exact ⟨r, e, chain_of h1.2⟩
    · cases h1
theorem comb_in {n m : Nat} (hn : n ≤ 5) (hm : m ≤ 5) : (∀ c ∈ choose (List.range n) m, c.length = m ∧ ∀ i ∈ c, i < n) ∧ (choose (List.range n) m).length ≤ 100 := by
  have h := comb_ok n hn m hm
  unfold combOk at h
  rw [Bool.and_eq_true, Bool.and_eq_true] at h
  refine ⟨fun c hc => ?_, of_decide_eq_true h.2⟩
  have q := List.all_eq_true.mp h.1.2 c hc
  rw [Bool.and_eq_true] at q
  exact ⟨of_decide_eq_true q.1, fun i hi => of_decide_eq_true (List.all_eq_true.mp q.2 i hi)⟩
theorem lotsFrom_succ (n : Nat) : ∀ (t lo : Nat), lotsFrom n lo (t + 1) = lotsFrom n lo t ++ choose (List.range n) (lo + t)
  | 0, lo => by simp [lotsFrom]
  | t + 1, lo => by
    have ih := lotsFrom_succ n t (lo + 1)
    show choose (List.range n) lo ++ lotsFrom n (lo + 1) (t + 1) = (choose (List.range n) lo ++ lotsFrom n (lo + 1) t) ++ _
    rw [ih, List.append_assoc, show lo + 1 + t = lo + (t + 1) by omega]
theorem lotsFrom_len (n : Nat) (hn : n ≤ 5) : ∀ (t lo : Nat), lo + t ≤ 6 → (lotsFrom n lo t).length ≤ 100 * t
  | 0, lo, _ => by simp [lotsFrom]
  | t + 1, lo, h => by
    rw [lotsFrom_succ, List.length_append]
    have h1 := lotsFrom_len n hn t lo (by omega)
    have h2 := (comb_in (n := n) (m := lo + t) hn (by omega)).2
    omega
section
variable {P : Program} {w : World} {K : PySem.W.Frag} {mg : Str → Option Value} {base : Heap}
theorem bits_sum (n : Nat) : ∀ lot : List Nat, ((lot.map fun q => ((wbit n q : Nat) : Int))).sum = (bits n lot : Nat)
  | [] => rfl
  | q :: r => by
    rw [List.map_cons, List.sum_cons, bits_sum n r]
    show ((wbit n q : Nat) : Int) + (bits n r : Nat) = ((wbit n q + bits n r : Nat) : Int)
    omega
def spBo (K : PySem.W.Frag) : Sp := fun vs H Q _ => ∃ (n : Nat) (a : Addr) (lot : List Nat), vs = [.int n, .ref a] ∧ (SqL K H a (lotV lot) ∨ SqT K H a (lotV lot)) ∧ (∀ q ∈ lot, q < n) ∧ n ≤ 100 ∧ lot.length ≤ 100 ∧ ∀ H', Same H H' → Q (.int (bits n lot : Nat)) H'
theorem ok_bits_of (T : Txt K mg) : FnOk P w K mg base CX0 2 T.bits_of.f T.bits_of.fd ["wires", "lot"] (spBo K) := by
  refine T.bits_of.F.ok sc_bits_of (fun vs H Q E h => ?_) (fun cdv A outer s H vs Q E hr h => ?_)
  · obtain ⟨a, ms, x, rfl, _⟩ := h; rfl
  · obtain ⟨n, a, lot, rfl, hS, hq, hn, hl, k⟩ := h
    refine ⟨_, (pss_one (ps_ret (pe_callB (cr_sum rfl) (by rfl) T.z_sum (by decide +kernel) (pa_cons (pe_lc (own := [("wire", 2)]) (g := gName 2) (tt := tYes) rfl sc_bits_of.nd (pi_seq (pv 1)) (blkOk_by (N := ["wires", "lot", "wire"]) (sc := defScope s_bits_of) (by decide +kernel)) (fun _ _ _ _ _ => (pg_name (i := 2) sc_bits_of.nd rfl (Or.inl rfl))) (fun _ _ _ _ _ => pts_nil) (fun _ _ _ _ _ => (pe_call (ok_wire_bit T) (hr.mono (by decide)) rfl T.wire_bit.m T.wire_bit.F.kp T.wire_bit.b .nil pass0 (pa_cons (pv 0) (pa_cons (pv 2) pa_nil))))) pa_nil)))), ?_⟩
    refine ⟨_, rfl, a, rfl, ?_⟩
    have step : ∀ (i : Nat) (x : V) (H1 H' : Hp), i < (lotV lot).length → Same H H1 → YAt (lotV lot) i H1 x H' → ∀ (yes : V → Hp → Prop) (no : Hp → Prop), (∀ y H4, Same H1 H4 → ((lot.take (i + 1)).map fun q => ((wbit n q : Nat) : Int)).map V.int = ((lot.take i).map fun q => ((wbit n q : Nat) : Int)).map V.int ++ [y] → yes y H4) →
        (∀ H3, Same H1 H3 → ((lot.take (i + 1)).map fun q => ((wbit n q : Nat) : Int)).map V.int = ((lot.take i).map fun q => ((wbit n q : Nat) : Int)).map V.int → no H3) → gName 2 x (wipe (start ["wires", "lot", "wire"] [V.int n, V.ref a]) [2]) H' fun σ2 H2 => wipe σ2 [2] = wipe (start ["wires", "lot", "wire"] [V.int n, V.ref a]) [2] ∧ tYes σ2 H2 fun b H3 => if b = true then tCall spWb [] E0 (tCons (tVar 0) (tCons (tVar 2) tNil)) σ2 H3 yes else no H3 := by
      rintro i x H1 H' hi sm ⟨rfl, hx⟩ yes no ky kn
      obtain ⟨q, e1, rfl⟩ := lotV_at hx
      obtain ⟨hlt, e2⟩ := List.getElem?_eq_some_iff.mp e1
      refine ⟨rfl, _, rfl, _, rfl, n, q, rfl, hq q (List.mem_of_getElem? e1), hn, ky _ _ (Same.refl _) ?_⟩
      rw [List.take_succ_eq_append_getElem hlt, e2, List.map_append, List.map_append]
      rfl
    have fin : ∀ (D : Addr) (H1 : Hp), Same H H1 → H1 D = some (.lst (((lot.take (lotV lot).length).map fun q => ((wbit n q : Nat) : Int)).map V.int)) → tCB (rSum K) (fun _ _ R => R [.ref D] H1) (start ["wires", "lot", "wire"] [V.int n, V.ref a]) H1 Q := by
      intro D H1 e1 e2
      rw [lotV_len, List.take_length] at e2
      refine ⟨D, _, rfl, SqL.of e2, ?_⟩
      rw [bits_sum]
      exact k H1 e1
    rcases hS with hS | hS
    · exact .inl ⟨⟨_, hS⟩, fun D hD => lc_pure walk_list (fun i => ((lot.take i).map fun q => ((wbit n q : Nat) : Int)).map V.int) (by rw [lotV_len]; omega) hD rfl (fun i _ => by simp; omega) (fun H1 e => Same.seq e hS) step (fin D)⟩
    · exact .inr ⟨⟨_, hS⟩, fun D hD => lc_pure walk_tup (fun i => ((lot.take i).map fun q => ((wbit n q : Nat) : Int)).map V.int) (by rw [lotV_len]; omega) hD rfl (fun i _ => by simp; omega) (fun H1 e => Same.tup e hS) step (fin D)⟩
def restF (b : Nat) (k : Nat) (m : Int) : Option Int := if (k + 1) &&& b = b then some m else none
theorem restF_sum (b : Nat) (ms : List Int) : (pick (restF b) ms ms.length).sum = asum b ms := by
  rw [pick_all]
  unfold asum dot
  refine esum_congr ms 0 fun j m _ _ => ?_
  unfold restF ind
  by_cases h : (j + 1) &&& b = b
  · rw [if_pos h, if_pos h, Int.mul_one]; rfl
  · rw [if_neg h, if_neg h, Int.mul_zero]; rfl
theorem rmod_pow {lot : List Nat} (h1 : 1 ≤ lot.length) (h3 : lot.length ≤ 3) : ((16 / 2 ^ lot.length : Nat) : Int) = rmod lot ∧ 0 < rmod lot := by
  unfold rmod
  have : lot.length = 1 ∨ lot.length = 2 ∨ lot.length = 3 := by omega
  rcases this with e | e | e <;> rw [e] <;> decide
def spRl (K : PySem.W.Frag) : Sp := fun vs H Q _ => ∃ (a b : Addr) (ms : List Int) (n : Nat) (lot : List Nat), vs = [.ref a, .int n, .ref b] ∧ SqT K H a (ms.map V.int) ∧ SqT K H b (lotV lot) ∧ (∀ q ∈ lot, q < n) ∧ n ≤ 100 ∧ ms.length ≤ 1000 ∧ 1 ≤ lot.length ∧ lot.length ≤ 3 ∧
  ∀ H', Same H H' → Q (.int (restM n ms lot)) H'
theorem ok_rest_of_lot (T : Txt K mg) : FnOk P w K mg base CX0 3 T.rest_of_lot.f T.rest_of_lot.fd ["marks", "wires", "lot"] (spRl K) := by
  refine T.rest_of_lot.F.ok sc_rest_of_lot (fun vs H Q E h => ?_) (fun cdv A outer s H vs Q E hr h => ?_)
  · obtain ⟨a, b, ms, n, lot, rfl, _⟩ := h; rfl
  · obtain ⟨a, b, ms, n, lot, rfl, hT, hL, hq, hn, hm, h1, h3, k⟩ := h
    refine ⟨_, (pss_cons (ps_set (i := 3) sc_rest_of_lot.nd rfl (Or.inr rfl) (pe_call (ok_bits_of T) (hr.mono (by decide)) rfl T.bits_of.m T.bits_of.F.kp T.bits_of.b .nil pass0 (pa_cons (pv 1) (pa_cons (pv 2) pa_nil))))
      (pss_one (ps_ret (pe_op op_mod (pe_callB (cr_sum rfl) (by rfl) T.z_sum (by decide +kernel) (pa_cons (pe_lc (own := [("place", 4), ("mark", 5)]) (g := gTup K 2 (gCons (gName 4) (gCons (gName 5) (gNil)))) rfl sc_rest_of_lot.nd (pi_enumT rfl T.z_enumerate (pa_cons (pv 0) pa_nil)) (blkOk_by (N := ["marks", "wires", "lot", "bits", "place", "mark"]) (sc := defScope s_rest_of_lot) (by decide +kernel)) (fun _ _ _ _ _ => (pg_tup rfl (pgs_cons (pg_name (i := 4) sc_rest_of_lot.nd rfl (Or.inl rfl)) (pgs_cons (pg_name (i := 5) sc_rest_of_lot.nd rfl (Or.inl rfl)) pgs_nil)))) (fun _ _ _ _ _ => (pts_one (pt_cmpR op_eq (pe_op op_andC (pe_op op_add (pv 4) pe_int) (pv 3)) (pv 3) (nomark _)))) (fun _ _ _ _ _ => (pv 5))) pa_nil)) (pe_op op_shrC (pe_op op_mul pe_int (pe_glob (v := .int 8) rfl T.gFULL ⟨_, rfl⟩)) (pe_callB call_lenC (by rfl) T.z_len (by decide +kernel) (pa_cons (pv 2) pa_nil))))))), ?_⟩
    refine ⟨_, rfl, _, rfl, n, b, lot, rfl, .inr hL, hq, hn, by omega, fun H1 s1 => ?_⟩
    have hT1 := Same.tup s1 hT
    refine ⟨_, rfl, a, _, rfl, hT1, fun D hD => ?_⟩
    refine lc_pure walk_enumT (fun i => (pick (restF (bits n lot)) ms i).map V.int) (by rw [List.length_map]; omega) hD rfl (fun i _ => by rw [List.length_map]; exact pick_le _ _ _) (fun H2 e => Same.tup e hT1) ?_ ?_
    · rintro i v H2 H3 hi sm ⟨T1, b1, b2, rfl, hnn, rfl, e1, e2⟩ yes no ky kn
      obtain ⟨rfl, hi2⟩ := ints_at e2
      cases Option.some.inj e1
      refine ⟨T1, _, rfl, SqT.of upd_same, rfl, _, _, rfl, _, _, rfl, rfl, rfl, ?_⟩
      refine ⟨_, rfl, _, _, rfl, rfl, _, rfl, i + 1, bits n lot, rfl, rfl, _, rfl, rfl, _, rfl, ?_⟩
      have ea := pick_succ (restF (bits n lot)) ms i
      by_cases hz : (i + 1) &&& bits n lot = bits n lot
      · rw [decide_eq_true (show V.int (((i + 1) &&& bits n lot : Nat) : Int) = .int (bits n lot : Nat) by rw [hz])]
        refine ⟨_, rfl, ky _ _ (Same.new hnn) ?_⟩
        rw [ea, show restF (bits n lot) i (ms.getD i 0) = some _ from if_pos hz]
        simp
      · rw [decide_eq_false (show ¬ V.int (((i + 1) &&& bits n lot : Nat) : Int) = .int (bits n lot : Nat) from fun q => hz (Int.ofNat.inj (V.int.inj q)))]
        refine kn _ (Same.new hnn) ?_
        rw [ea, show restF (bits n lot) i (ms.getD i 0) = none from if_neg hz]
        simp
    · intro H2 e1 e2
      rw [List.length_map] at e2
      obtain ⟨r1, r2⟩ := rmod_pow h1 h3
      refine ⟨D, _, rfl, SqL.of e2, _, _, rfl, rfl, .inl (by decide), _, rfl, b, _, rfl, .inr (Same.tup e1 (Same.tup s1 hL)), 16, lot.length, rfl, by rw [lotV_len], ?_⟩
      refine ⟨_, _, rfl, rfl, ?_, ?_⟩
      · show (0 : Int) < ((16 / 2 ^ lot.length : Nat) : Int)
        rw [r1]; exact r2
      · show Q (.int ((pick (restF (bits n lot)) ms ms.length).sum % ((16 / 2 ^ lot.length : Nat) : Int))) H2
        rw [restF_sum, r1]
        exact k H2 (s1.trans e1)
def spLo (K : PySem.W.Frag) : Sp := fun vs H Q _ => ∃ n lo hi : Nat, vs = [.int n, .int lo, .int hi] ∧ n ≤ 5 ∧ lo ≤ hi + 1 ∧ hi ≤ 5 ∧ ∀ H' p refs, Same H H' → H p = none → H' p = some (.lst refs) → DpAll K H' refs ((lots n lo hi).map lotD) → Q (.ref p) H'
theorem ok_lots_of (T : Txt K mg) : FnOk P w K mg base CX0 1 T.lots_of.f T.lots_of.fd ["wires", "least", "most"] (spLo K) := by
  refine T.lots_of.F.ok sc_lots_of (fun vs H Q E h => ?_) (fun cdv A outer s H vs Q E hr h => ?_)
  · obtain ⟨n, lo, hi, rfl, _⟩ := h; rfl
  · obtain ⟨n, lo, hi, rfl, hn, h1, h5, k⟩ := h
    refine ⟨_, (pss_cons (ps_set (i := 3) sc_lots_of.nd rfl (Or.inl rfl) (pe_lst pa_nil))
      (pss_cons (ps_for PassesOwn.never rfl (pi_range2 rfl T.z_range (pa_cons (pv 1) (pa_cons (pe_op op_add (pv 2) pe_int) pa_nil))) (pg_name (i := 4) sc_lots_of.nd rfl (Or.inl rfl)) (pss_one (ps_expr (pe_bm PySem.F.plainAttrs_list PySem.F.slot_list_extend PySem.F.type_list_extend mt_extend (pv 3) (pa_cons (pe_combos rfl rfl T.z_list rfl T.gComb rfl T.z_range (pv 0) (pv 4)) pa_nil)))))
      (pss_one (ps_ret (pv 3))))), ?_⟩
    refine ⟨Nat.zero_le _, fun l hl => ?_⟩
    refine ⟨_, rfl, _, rfl, _, _, rfl, rfl, _, _, rfl, ⟨by omega, by omega, by omega, by omega⟩, ?_⟩
    have hN : ((hi : Int) + 1 - lo).toNat = hi + 1 - lo := by omega
    rw [hN]
    refine for_range (fun i σ H' => ∃ (v : Option V) (refs : List V), σ = [some (.int n), some (.int lo), some (.int hi), some (.ref l), v] ∧ Same H H' ∧ H' l = some (.lst refs) ∧ DpAll K H' refs ((lotsFrom n lo i).map lotD)) ⟨none, [], rfl, Same.new hl, upd_same, .nil⟩ ?_ ?_
    · rintro i σ H1 hi2 ⟨v, refs, rfl, s1, hL, hD⟩
      refine ⟨_, rfl, .inl ⟨rfl, _, SqL.of hL⟩, ?_⟩
      have em : (lo : Int) + i = ((lo + i : Nat) : Int) := by omega
      obtain ⟨c1, c2⟩ := comb_in (n := n) (m := lo + i) hn (by omega)
      refine ⟨_, rfl, n, rfl, by omega, _, rfl, lo + i, choose (List.range n) (lo + i), congrArg V.int em, by omega, fun c hc => ⟨by rw [(c1 c hc).1]; omega, (c1 c hc).2⟩, by omega, comb_walk hn (by omega), fun H2 p as s2 hp hp2 hlen hat => ?_⟩
      have hlr := DpAll.len hD
      rw [List.length_map] at hlr
      have hll := lotsFrom_len n hn i lo (by omega)
      refine ⟨l, p, _, _, rfl, rfl, s2 _ _ hL, hp2, ?_, ?_⟩
      · rw [List.length_map, sizeLine_eq]; omega
      · have hlp : l ≠ p := ne_of_none hL hp
        have nl : H l = none := hl
        refine ⟨some (.int (lo + i)), _, rfl, fun b o e => ?_, upd_same, ?_⟩
        · rw [upd_ne (ne_of_none e nl)]
          exact s2 _ _ (s1 _ _ e)
        · rw [lotsFrom_succ, List.map_append]
          have hK : Keep l H2 (upd H2 l (.lst (refs ++ as.map V.ref))) := Keep.upd
          have d1 : DpAll K H2 refs ((lotsFrom n lo i).map lotD) := DpAll.same s2 _ _ hD
          have d2 : DpAll K H2 (as.map V.ref) ((choose (List.range n) (lo + i)).map lotD) := dpAll_of (by rw [List.length_map, List.length_map, hlen]) fun j d hj => by
            rw [List.getElem?_map] at hj
            cases e : (choose (List.range n) (lo + i))[j]? with
            | none => rw [e] at hj; cases hj
            | some c =>
              rw [e] at hj
              cases Option.some.inj hj
              obtain ⟨a, e1, e2⟩ := hat j c e
              refine ⟨.ref a, by rw [List.getElem?_map, e1]; rfl, dpLot (SqT.of ?_)⟩
              rw [e2, lotV_eq]
          exact DpAll.append (dpLots_mut (s2 _ _ hL) hK d1) (dpLots_mut (s2 _ _ hL) hK d2)
    · rintro σ H1 ⟨v, refs, rfl, s1, hL, hD⟩
      exact ⟨_, rfl, k H1 l refs s1 hl hL hD⟩
end
end E8
set_option Elab.async false
set_option maxRecDepth 100000
/-! EM2: the plain law, part 2: plain MARKS. Core Lean alone. -/
namespace E8

/-- told / 2^(size - 1), its sign turned for two wires -/
def toldOf (lot : List Nat) (t : Int) : Int := t / ((1 * 2 ^ (lot.length - 1) : Nat) : Int) * (if lot.length = 2 then -1 else 1)
/-- one turn of plain_by -/
def plainStep (n : Nat) (ts : List Int) (found : List Int) (lot : List Nat) : List Int :=
  found.set (bits n lot - 1) ((toldOf lot (timesM n ts lot) - asum (bits n lot) found) % rmod lot)
def plainFold (n : Nat) (ts : List Int) (ls : List (List Nat)) (found : List Int) : List Int := ls.foldl (plainStep n ts) found
def plainBy (n : Nat) (ts : List Int) : List Int := plainFold n ts (lots n 1 3).reverse (List.replicate (2 ^ n - 1) 0)

theorem plainFold_length (n : Nat) (ts : List Int) : ∀ (ls : List (List Nat)) (found : List Int), (plainFold n ts ls found).length = found.length
  | [], _ => rfl
  | lot :: r, found => by
    show (plainFold n ts r (plainStep n ts found lot)).length = found.length
    rw [plainFold_length n ts r]
    exact List.length_set
theorem plainFold_succ {n : Nat} {ts : List Int} {ls : List (List Nat)} {found : List Int} {i : Nat} {lot : List Nat} (h : ls[i]? = some lot) : plainFold n ts (ls.take (i + 1)) found = plainStep n ts (plainFold n ts (ls.take i) found) lot := by
  obtain ⟨hlt, e⟩ := List.getElem?_eq_some_iff.mp h
  unfold plainFold
  rw [List.take_succ_eq_append_getElem hlt, e, List.foldl_append]
  rfl
theorem plainBy_length (n : Nat) (ts : List Int) : (plainBy n ts).length = 2 ^ n - 1 := by
  unfold plainBy
  rw [plainFold_length, List.length_replicate]

theorem esum_set (c : Nat → Int) (v : Int) : ∀ (ms : List Int) (k j : Nat) (u : Int), ms[j]? = some u → esum (fun i m => m * c i) k (ms.set j v) = esum (fun i m => m * c i) k ms + (v - u) * c (k + j)
  | [], _, _, _, h => by simp at h
  | m :: r, k, 0, u, h => by
    have e : m = u := by simpa using h
    subst e
    simp only [List.set_cons_zero, esum, Nat.add_zero, Int.sub_mul]
    omega
  | m :: r, k, j + 1, u, h => by
    have ih := esum_set c v r (k + 1) j u (by simpa using h)
    simp only [List.set_cons_succ, esum, ih]
    rw [show k + 1 + j = k + (j + 1) by omega]
    omega
theorem dot_set {c : Nat → Int} {ms : List Int} {j : Nat} {u v : Int} (h : ms[j]? = some u) : dot c (ms.set j v) = dot c ms + (v - u) * c j := by
  have e := esum_set c v ms 0 j u h
  rw [Nat.zero_add] at e
  exact e

/-- told of the sum that MARKS have -/
theorem told_rest {n : Nat} {ms : List Int} {lot : List Nat} (hn : n ≤ 5) (hl : ms.length = 2 ^ n - 1) (hm : lot ∈ lots n 1 3) : toldOf lot (timesM n (turnsM ms) lot) % rmod lot = restM n ms lot := by
  rw [times_turns hn hl hm]
  unfold restM toldOf
  rcases lots13_len n hn lot hm with e | e | e
  · have e1 : rmod lot = 8 := by unfold rmod; rw [e]; rfl
    have e2 : sgn lot = 1 := by unfold sgn; rw [e]; rfl
    have e3 : ((1 * 2 ^ (lot.length - 1) : Nat) : Int) = 1 := by rw [e]; rfl
    rw [e1, e2, e3, e, if_neg (by decide)]; omega
  · have e1 : rmod lot = 4 := by unfold rmod; rw [e]; rfl
    have e2 : sgn lot = -2 := by unfold sgn; rw [e]; rfl
    have e3 : ((1 * 2 ^ (lot.length - 1) : Nat) : Int) = 2 := by rw [e]; rfl
    rw [e1, e2, e3, e, if_pos rfl]; omega
  · have e1 : rmod lot = 2 := by unfold rmod; rw [e]; rfl
    have e2 : sgn lot = 4 := by unfold sgn; rw [e]; rfl
    have e3 : ((1 * 2 ^ (lot.length - 1) : Nat) : Int) = 4 := by rw [e]; rfl
    rw [e1, e2, e3, e, if_neg (by decide)]; omega

/-! ### the fold -/
/-- d has not all the bits of b -/
def NotIn (n : Nat) (b d : List Nat) : Prop := bits n d &&& bits n b ≠ bits n b
instance (n : Nat) (b d : List Nat) : Decidable (NotIn n b d) := inferInstanceAs (Decidable (_ ≠ _))
theorem lots_order : ∀ n, n ≤ 5 → (lots n 1 3).reverse.Pairwise (NotIn n) := by decide +kernel
theorem lots_bits : ∀ n, n ≤ 5 → ∀ lot ∈ lots n 1 3, 1 ≤ bits n lot ∧ bits n lot < 2 ^ n := by decide +kernel
theorem rmod_pos {n : Nat} {lot : List Nat} (hn : n ≤ 5) (hm : lot ∈ lots n 1 3) : 0 < rmod lot ∧ rmod lot ≤ 8 := by
  unfold rmod
  rcases lots13_len n hn lot hm with e | e | e <;> rw [e] <;> decide
/-- behind the sets ls: their sums are told, and only their places may be filled -/
structure Filled (n : Nat) (ts : List Int) (ls : List (List Nat)) (found : List Int) : Prop where
  len : found.length = 2 ^ n - 1
  sums : ∀ lot ∈ ls, asum (bits n lot) found % rmod lot = toldOf lot (timesM n ts lot) % rmod lot
  rng : ∀ (j : Nat) (u : Int), found[j]? = some u → u = 0 ∨ ∃ lot ∈ ls, bits n lot - 1 = j ∧ 0 ≤ u ∧ u < rmod lot
theorem filled_step {n : Nat} {ts found : List Int} {ls : List (List Nat)} {lot : List Nat} (hn : n ≤ 5) (hm : lot ∈ lots n 1 3) (hs : ∀ b ∈ ls, b ∈ lots n 1 3) (hp : ∀ b ∈ ls, NotIn n b lot) (F : Filled n ts ls found)
    (h0 : found[bits n lot - 1]? = some 0) : Filled n ts (ls ++ [lot]) (plainStep n ts found lot) := by
  obtain ⟨hb1, hb2⟩ := lots_bits n hn lot hm
  obtain ⟨r1, r2⟩ := rmod_pos hn hm
  have hv := Int.emod_nonneg (toldOf lot (timesM n ts lot) - asum (bits n lot) found) (Int.ne_of_gt r1)
  have hv2 := Int.emod_lt_of_pos (toldOf lot (timesM n ts lot) - asum (bits n lot) found) r1
  refine ⟨by unfold plainStep; rw [List.length_set]; exact F.len, fun b hb => ?_, fun j u hj => ?_⟩
  · have e : asum (bits n b) (plainStep n ts found lot) = asum (bits n b) found + (((toldOf lot (timesM n ts lot) - asum (bits n lot) found) % rmod lot) - 0) * ind (bits n b) (bits n lot - 1) := dot_set h0
    have hk : bits n lot - 1 + 1 = bits n lot := by omega
    rcases List.mem_append.mp hb with hb | hb
    · have z : ind (bits n b) (bits n lot - 1) = 0 := by
        unfold ind
        rw [hk, if_neg (hp b hb)]
      rw [e, z, Int.mul_zero, Int.add_zero]
      exact F.sums b hb
    · have eb := List.mem_singleton.mp hb
      subst eb
      have z : ind (bits n b) (bits n b - 1) = 1 := by
        unfold ind
        rw [hk, Nat.and_self, if_pos rfl]
      rw [e, z, Int.mul_one, Int.sub_zero, Int.add_emod, Int.emod_emod_of_dvd _ (Int.dvd_refl _), ← Int.add_emod]
      congr 1
      omega
  · unfold plainStep at hj
    by_cases hjl : j = bits n lot - 1
    · subst hjl
      have hlt : bits n lot - 1 < found.length := (List.getElem?_eq_some_iff.mp h0).1
      rw [List.getElem?_set_self hlt] at hj
      have eu := Option.some.inj hj
      exact .inr ⟨lot, by simp, rfl, by omega, by omega⟩
    · rw [List.getElem?_set_ne (Ne.symm hjl)] at hj
      rcases F.rng j u hj with z | ⟨b, b1, b2⟩
      · exact .inl z
      · exact .inr ⟨b, List.mem_append_left _ b1, b2⟩
theorem bits_inj : ∀ n, n ≤ 5 → ∀ a ∈ lots n 1 3, ∀ b ∈ lots n 1 3, bits n a = bits n b → a = b := by decide +kernel
theorem filled_fold {n : Nat} {ts : List Int} (hn : n ≤ 5) : ∀ (ls done : List (List Nat)) (found : List Int), done ++ ls = (lots n 1 3).reverse → Filled n ts done found → Filled n ts (done ++ ls) (plainFold n ts ls found)
  | [], done, found, _, F => by
    rw [List.append_nil]
    exact F
  | lot :: r, done, found, h, F => by
    have hord := lots_order n hn
    rw [← h] at hord
    have hin : ∀ b ∈ done ++ lot :: r, b ∈ lots n 1 3 := fun b hb => by
      rw [h] at hb
      exact List.mem_reverse.mp hb
    have hm : lot ∈ lots n 1 3 := hin lot (by simp)
    have hs : ∀ b ∈ done, b ∈ lots n 1 3 := fun b hb => hin b (List.mem_append_left _ hb)
    have hp : ∀ b ∈ done, NotIn n b lot := fun b hb => (List.pairwise_append.mp hord).2.2 b hb lot List.mem_cons_self
    obtain ⟨hb1, hb2⟩ := lots_bits n hn lot hm
    have hlt : bits n lot - 1 < found.length := by rw [F.len]; omega
    have h0 : found[bits n lot - 1]? = some 0 := by
      have hg := List.getElem?_eq_getElem hlt
      rcases F.rng _ _ hg with z | ⟨b, b1, b2, _⟩
      · rw [hg, z]
      · obtain ⟨c1, c2⟩ := lots_bits n hn b (hs b b1)
        have e : b = lot := bits_inj n hn b (hs b b1) lot hm (by omega)
        have := hp b b1
        rw [e] at this
        exact absurd (Nat.and_self _) this
    have F2 := filled_step hn hm hs hp F h0
    have ih := filled_fold hn r (done ++ [lot]) (plainStep n ts found lot) (by rw [List.append_assoc]; exact h) F2
    rw [List.append_assoc] at ih
    exact ih
theorem asum_zeros (b k : Nat) : asum b (List.replicate k 0) = 0 := by
  unfold asum dot
  have : ∀ (k j : Nat), esum (fun i m => m * ind b i) j (List.replicate k 0) = 0 := by
    intro k
    induction k with
    | zero => intro j; rfl
    | succ k ih => intro j; rw [List.replicate_succ]; simp only [esum, ih, Int.zero_mul]; rfl
  exact this k 0
theorem plain_filled {n : Nat} (ts : List Int) (hn : n ≤ 5) : Filled n ts (lots n 1 3).reverse (plainBy n ts) :=
  filled_fold hn (lots n 1 3).reverse [] _ rfl ⟨List.length_replicate, fun _ h => (nomatch h), fun j u h => .inl (List.eq_of_mem_replicate (List.mem_of_getElem? h))⟩
/-- plain MARKS turn alike -/
theorem plain_turns {n : Nat} {ms : List Int} (hn : n ≤ 5) (hl : ms.length = 2 ^ n - 1) : turnsM (plainBy n (turnsM ms)) = turnsM ms := by
  have F := plain_filled (turnsM ms) hn
  refine turns_of_rest hn (plainBy_length _ _) hl fun lot hm => ?_
  have e := F.sums lot (List.mem_reverse.mpr hm)
  rw [told_rest hn hl hm] at e
  exact e
def onesN (b : Nat) : Nat := (List.range 8).foldl (fun a i => a + b / 2 ^ i % 2) 0
/-- below which a plain mark lies -/
def plainTop (b : Nat) : Int := if onesN b = 1 then 8 else if onesN b = 2 then 4 else if onesN b = 3 then 2 else 1
theorem ones_lots : ∀ n, n ≤ 5 → ∀ lot ∈ lots n 1 3, plainTop (bits n lot) = rmod lot := by decide +kernel
theorem plainTop_pos : ∀ b, b < 32 → 0 < plainTop b := by decide +kernel
theorem plain_range {n : Nat} {ts : List Int} (hn : n ≤ 5) {j : Nat} {u : Int} (h : (plainBy n ts)[j]? = some u) : 0 ≤ u ∧ u < plainTop (j + 1) ∧ u < 8 := by
  have hj := (List.getElem?_eq_some_iff.mp h).1
  rw [plainBy_length] at hj
  have h32 : 2 ^ n ≤ 2 ^ 5 := Nat.pow_le_pow_right (by decide) hn
  rcases (plain_filled ts hn).rng j u h with z | ⟨lot, l1, l2, l3, l4⟩
  · rw [z]
    exact ⟨Int.le_refl _, plainTop_pos _ (by omega), by decide⟩
  · have hm := List.mem_reverse.mp l1
    obtain ⟨c1, c2⟩ := lots_bits n hn lot hm
    have e := ones_lots n hn lot hm
    rw [show bits n lot = j + 1 by omega] at e
    have := (rmod_pos hn hm).2
    exact ⟨l3, by rw [e]; exact l4, by omega⟩
theorem plain_zero : ∀ n, n ≤ 5 → plainBy n (List.replicate (2 ^ n) 0) = List.replicate (2 ^ n - 1) 0 := by decide +kernel
end E8
set_option Elab.async false
set_option linter.all false
set_option maxRecDepth 100000
/-! D3: times_of, plain_by. -/
namespace E8
open PySem PySem.Spec PyProof.Rows L2
theorem lots_lt : ∀ n, n ≤ 5 → ∀ lot ∈ lots n 1 3, ∀ q ∈ lot, q < n := by decide +kernel
theorem lots_small : ∀ m, m ≤ 3 → ∀ js ∈ lots m 0 m, js.length ≤ m ∧ ∀ j ∈ js, j < m := by decide +kernel
theorem lots_count : ∀ n, n ≤ 5 → (lots n 1 3).length ≤ 100 ∧ (lots n 0 n).length ≤ 100 := by decide +kernel
theorem lsum_append {α : Type} (f : α → Int) : ∀ a b : List α, lsum f (a ++ b) = lsum f a + lsum f b
  | [], b => by simp [lsum]
  | x :: a, b => by
    have ih := lsum_append f a b
    simp only [List.cons_append, lsum, ih]
    omega
theorem lsum_take {α : Type} {f : α → Int} {l : List α} {i : Nat} {a : α} (h : l[i]? = some a) : lsum f (l.take (i + 1)) = lsum f (l.take i) + f a := by
  obtain ⟨hlt, e⟩ := List.getElem?_eq_some_iff.mp h
  rw [List.take_succ_eq_append_getElem hlt, e, lsum_append]
  simp [lsum]
theorem DpAll.reverse {K : PySem.W.Frag} {H : Hp} : ∀ {xs : List V} {ds : List PyData}, DpAll K H xs ds → DpAll K H xs.reverse ds.reverse
  | [], _, h => by cases h; exact .nil
  | x :: xs, _, h => by
    cases h with
    | cons h1 h2 =>
      rw [List.reverse_cons, List.reverse_cons]
      exact DpAll.append (DpAll.reverse h2) (.cons h1 .nil)
section
variable {P : Program} {w : World} {K : PySem.W.Frag} {mg : Str → Option Value} {base : Heap}
def spTi (K : PySem.W.Frag) : Sp := fun vs H Q _ => ∃ (a b : Addr) (ts : List Int) (n : Nat) (lot : List Nat), vs = [.ref a, .int n, .ref b] ∧ SqT K H a (ts.map V.int) ∧ SqT K H b (lotV lot) ∧ n ≤ 5 ∧ lot ∈ lots n 1 3 ∧ ts.length = 2 ^ n ∧
  ∀ H', Same H H' → Q (.int (timesM n ts lot)) H'
theorem ok_times_of (T : Txt K mg) : FnOk P w K mg base CX0 3 T.times_of.f T.times_of.fd ["turns", "wires", "lot"] (spTi K) := by
  refine T.times_of.F.ok sc_times_of (fun vs H Q E h => ?_) (fun cdv A outer s H vs Q E hr h => ?_)
  · obtain ⟨a, b, ts, n, lot, rfl, _⟩ := h; rfl
  · obtain ⟨a, b, ts, n, lot, rfl, hT, hL, hn, hm, hl, k⟩ := h
    have hlen := lots13_len n hn lot hm
    have hlt := lots_lt n hn lot hm
    refine ⟨_, (pss_cons (ps_set (i := 3) sc_times_of.nd rfl (Or.inl rfl) pe_int)
      (pss_cons (ps_for PassesOwn.never rfl (pi_list (pe_call (ok_lots_of T) (hr.mono (by decide)) rfl T.lots_of.m T.lots_of.F.kp T.lots_of.b .nil pass0 (pa_cons (pe_callB call_lenC (by rfl) T.z_len (by decide +kernel) (pa_cons (pv 2) pa_nil)) (pa_cons pe_int (pa_cons (pe_callB call_lenC (by rfl) T.z_len (by decide +kernel) (pa_cons (pv 2) pa_nil)) pa_nil))))) (pg_name (i := 4) sc_times_of.nd rfl (Or.inl rfl)) (pss_cons (ps_set (i := 5) sc_times_of.nd rfl (Or.inl rfl) (pe_call (ok_bits_of T) (hr.mono (by decide)) rfl T.bits_of.m T.bits_of.F.kp T.bits_of.b .nil pass0 (pa_cons (pv 1) (pa_cons (pe_lc (own := [("at", 6)]) (g := gName 6) (tt := tYes) rfl sc_times_of.nd (pi_tup (pv 4)) (blkOk_by (N := ["turns", "wires", "lot", "found", "inner", "place", "at"]) (sc := defScope s_times_of) (by decide +kernel)) (fun _ _ _ _ _ => (pg_name (i := 6) sc_times_of.nd rfl (Or.inl rfl))) (fun _ _ _ _ _ => pts_nil) (fun _ _ _ _ _ => (pe_ix (r := rIxT K) ix_tup (pv 2) (pv 6) (fun _ _ => rfl)))) pa_nil))))
      (pss_one (ps_aug (i := 3) sc_times_of.nd rfl (Or.inl rfl) (pe_ifExp (pt_cmpR op_eq (pe_op op_mod (pe_op op_sub (pe_callB call_lenC (by rfl) T.z_len (by decide +kernel) (pa_cons (pv 2) pa_nil)) (pe_callB call_lenC (by rfl) T.z_len (by decide +kernel) (pa_cons (pv 4) pa_nil))) pe_int) pe_int (nomark _)) (pe_ix (r := rIxT K) ix_tup (pv 0) (pv 5) (fun _ _ => rfl)) (pe_un un_neg (pe_ix (r := rIxT K) ix_tup (pv 0) (pv 5) (fun _ _ => rfl)))) ip_add))))
      (pss_one (ps_ret (pe_op op_mod (pv 3) (pe_glob (v := .int 8) rfl T.gFULL ⟨_, rfl⟩)))))), ?_⟩
    refine ⟨_, rfl, b, _, rfl, .inr hL, _, rfl, b, _, rfl, .inr hL, lot.length, 0, lot.length, by rw [lotV_len]; rfl, by omega, by omega, by omega, fun H1 p refs s1 hp hp1 hD => ?_⟩
    have hrl := DpAll.len hD
    rw [List.length_map] at hrl
    refine ⟨p, rfl, ⟨_, SqL.of hp1⟩, for_list (K := K) (a := p) (xs := refs) (fun i σ H' => ∃ v4 v5 : Option V, σ = [some (.ref a), some (.int n), some (.ref b), some (.int (lsum (fun (q : Nat × Int) => q.2 * ts.getD q.1 0) ((innerM n lot).take i))), v4, v5, none] ∧ Same H1 H') ⟨none, none, rfl, Same.refl _⟩ (fun i σ H' _ ⟨_, _, _, e⟩ => SqL.of (e _ _ hp1)) ?_ ?_⟩
    · rintro i x σ H2 hx ⟨v4, v5, rfl, s2⟩
      obtain ⟨d, hd1, hd2⟩ := DpAll.get hD hx
      rw [List.getElem?_map] at hd1
      cases hj : (lots lot.length 0 lot.length)[i]? with
      | none => rw [hj] at hd1; cases hd1
      | some js =>
        rw [hj] at hd1
        cases Option.some.inj hd1
        obtain ⟨c, rfl, hJ⟩ := dpLot_inv hd2
        have hJ2 := Same.tup s2 hJ
        obtain ⟨jl, jb⟩ := lots_small lot.length (by omega) js (List.mem_of_getElem? hj)
        have hL2 := Same.tup s2 (Same.tup s1 hL)
        have hin : (innerM n lot)[i]? = some (bits n (js.map fun j => lot.getD j 0), if (lot.length - js.length) % 2 = 0 then 1 else -1) := by
          unfold innerM
          rw [List.getElem?_map, hj]
          rfl
        have hin2 := innerM_lt n hn lot hm _ (List.mem_of_getElem? hin)
        refine ⟨_, rfl, _, rfl, c, rfl, ⟨_, hJ2⟩, fun D hD1 => ?_⟩
        refine lc_pure walk_tup (fun j => lotV ((js.take j).map fun j => lot.getD j 0)) (by rw [lotV_len]; omega) hD1 rfl (fun j _ => by rw [lotV_len]; simp; omega) (fun H3 e => Same.tup e hJ2) ?_ ?_
        · rintro j y H3 H4 hj2 sm ⟨rfl, hy⟩ yes no ky kn
          obtain ⟨jj, e1, rfl⟩ := lotV_at hy
          obtain ⟨hlt2, e2⟩ := List.getElem?_eq_some_iff.mp e1
          have hjj := jb jj (List.mem_of_getElem? e1)
          have eg : (lotV lot)[jj]? = some (.int (lot.getD jj 0 : Nat)) := by
            rw [← lotV_eq, List.getElem?_map, List.getElem?_eq_getElem hjj, List.getD_eq_getElem?_getD, List.getElem?_eq_getElem hjj]
            rfl
          refine ⟨rfl, _, rfl, _, rfl, b, _, jj, _, rfl, rfl, Same.tup sm hL2, atI_nat eg, ky _ _ (Same.refl _) ?_⟩
          rw [List.take_succ_eq_append_getElem hlt2, e2, List.map_append, ← lotV_eq, ← lotV_eq, List.map_append]
          rfl
        · intro H3 e1 e2
          rw [lotV_len, List.take_length] at e2
          refine ⟨n, D, _, rfl, .inl (SqL.of e2), ?_, by omega, by rw [List.length_map]; omega, fun H4 s4 => ?_⟩
          · intro q hq
            obtain ⟨jj, h1, h2⟩ := List.mem_map.mp hq
            have hjj := jb jj h1
            rw [← h2, List.getD_eq_getElem?_getD, List.getElem?_eq_getElem hjj]
            exact hlt _ (List.getElem_mem hjj)
          have hL4 := Same.tup s4 (Same.tup e1 hL2)
          have hJ4 := Same.tup s4 (Same.tup e1 hJ2)
          have hT4 := Same.tup s4 (Same.tup e1 (Same.tup s2 (Same.tup s1 hT)))
          refine ⟨_, rfl, _, rfl, b, _, rfl, .inr hL4, _, rfl, c, _, rfl, .inr hJ4, _, _, rfl, rfl, _, _, rfl, rfl, (by show (0 : Int) < 2; decide), rfl, _, rfl, ?_⟩
          have eg : (ts.map V.int)[bits n (js.map fun j => lot.getD j 0)]? = some (.int (ts.getD (bits n (js.map fun j => lot.getD j 0)) 0)) := by
            have hb : bits n (js.map fun j => lot.getD j 0) < ts.length := by rw [hl]; exact hin2.1
            rw [List.getElem?_map, List.getElem?_eq_getElem hb, List.getD_eq_getElem?_getD, List.getElem?_eq_getElem hb]
            rfl
          rw [lotV_len, lotV_len]
          have key : lsum (fun (q : Nat × Int) => q.2 * ts.getD q.1 0) ((innerM n lot).take (i + 1)) = lsum (fun (q : Nat × Int) => q.2 * ts.getD q.1 0) ((innerM n lot).take i) + (if (lot.length - js.length) % 2 = 0 then 1 else -1) * ts.getD (bits n (js.map fun j => lot.getD j 0)) 0 := lsum_take hin
          by_cases hpar : (lot.length - js.length) % 2 = 0
          · rw [decide_eq_true (show V.int (((lot.length : Nat) - (js.length : Nat) : Int) % 2) = .int 0 by congr 1; omega)]
            refine ⟨_, rfl, _, rfl, a, _, _, _, rfl, rfl, hT4, atI_nat eg, _, _, rfl, rfl, some (.ref c), some (.int (bits n (js.map fun j => lot.getD j 0) : Nat)), ?_, s2.trans (e1.trans s4)⟩
            rw [key, if_pos hpar, Int.one_mul]
            rfl
          · rw [decide_eq_false (show ¬ V.int (((lot.length : Nat) - (js.length : Nat) : Int) % 2) = .int 0 from fun q => hpar (by have := V.int.inj q; omega))]
            refine ⟨_, rfl, _, rfl, a, _, _, _, rfl, rfl, hT4, atI_nat eg, _, rfl, _, _, rfl, rfl, some (.ref c), some (.int (bits n (js.map fun j => lot.getD j 0) : Nat)), ?_, s2.trans (e1.trans s4)⟩
            rw [key, if_neg hpar, Int.neg_mul, Int.one_mul]
            rfl
    · rintro σ H2 ⟨v4, v5, rfl, s2⟩
      refine ⟨_, rfl, _, _, rfl, rfl, (by show (0 : Int) < 8; decide), ?_⟩
      have e : (innerM n lot).take refs.length = innerM n lot := by
        rw [hrl]
        unfold innerM
        rw [← List.map_take, List.take_length]
      show Q (.int (lsum (fun (q : Nat × Int) => q.2 * ts.getD q.1 0) ((innerM n lot).take refs.length) % 8)) H2
      rw [e]
      exact k H2 (s1.trans s2)
end
end E8
set_option Elab.async false
set_option linter.all false
set_option maxRecDepth 100000
/-! D4: plain_by. -/
namespace E8
open PySem PySem.Spec PyProof.Rows L2
theorem rep_flat (k : Nat) : (List.replicate k [V.int 0]).flatten = (List.replicate k (0 : Int)).map V.int := by
  induction k with
  | zero => rfl
  | succ k ih => rw [List.replicate_succ, List.flatten_cons, ih, List.replicate_succ, List.map_cons]; rfl
theorem ixN_nat {n j : Nat} (h : j < n) : ixN n (j : Int) = some j := by
  unfold ixN
  rw [if_pos (by omega), if_pos (by omega), Int.toNat_natCast]
section
variable {P : Program} {w : World} {K : PySem.W.Frag} {mg : Str → Option Value} {base : Heap}
def spPb (K : PySem.W.Frag) : Sp := fun vs H Q _ => ∃ (a : Addr) (ts : List Int) (n : Nat), vs = [.ref a, .int n] ∧ SqT K H a (ts.map V.int) ∧ n ≤ 5 ∧ ts.length = 2 ^ n ∧
  ∀ H' p, Same H H' → H p = none → H' p = some (.tup ((plainBy n ts).map V.int)) → Q (.ref p) H'
theorem ok_plain_by (T : Txt K mg) : FnOk P w K mg base CX0 4 T.plain_by.f T.plain_by.fd ["turns", "wires"] (spPb K) := by
  refine T.plain_by.F.ok sc_plain_by (fun vs H Q E h => ?_) (fun cdv A outer s H vs Q E hr h => ?_)
  · obtain ⟨a, ts, n, rfl, _⟩ := h; rfl
  · obtain ⟨a, ts, n, rfl, hT, hn, hl, k⟩ := h
    have h32 : 2 ^ n ≤ 2 ^ 5 := Nat.pow_le_pow_right (by decide) hn
    have hp0 : 0 < 2 ^ n := Nat.two_pow_pos n
    refine ⟨_, (pss_cons (ps_set (i := 2) sc_plain_by.nd rfl (Or.inl rfl) (pe_op op_rep (pe_lst (pa_cons pe_int pa_nil)) (pe_op op_sub (pe_callB call_lenC (by rfl) T.z_len (by decide +kernel) (pa_cons (pv 0) pa_nil)) pe_int)))
      (pss_cons (ps_for PassesOwn.never rfl (pi_list (pe_revL (pe_call (ok_lots_of T) (hr.mono (by decide)) rfl T.lots_of.m T.lots_of.F.kp T.lots_of.b .nil pass0 (pa_cons (pv 1) (pa_cons pe_int (pa_cons pe_int pa_nil)))))) (pg_name (i := 3) sc_plain_by.nd rfl (Or.inl rfl)) (pss_cons (ps_asg (pe_tup (pa_cons (pe_call (ok_bits_of T) (hr.mono (by decide)) rfl T.bits_of.m T.bits_of.F.kp T.bits_of.b .nil pass0 (pa_cons (pv 1) (pa_cons (pv 3) pa_nil))) (pa_cons (pe_callB call_lenC (by rfl) T.z_len (by decide +kernel) (pa_cons (pv 3) pa_nil)) pa_nil))) (pg_tup rfl (pgs_cons (pg_name (i := 4) sc_plain_by.nd rfl (Or.inr rfl)) (pgs_cons (pg_name (i := 5) sc_plain_by.nd rfl (Or.inl rfl)) pgs_nil))))
      (pss_cons (ps_set (i := 6) sc_plain_by.nd rfl (Or.inl rfl) (pe_callB (cr_sum rfl) (by rfl) T.z_sum (by decide +kernel) (pa_cons (pe_lc (own := [("place", 8), ("mark", 9)]) (g := gTup K 2 (gCons (gName 8) (gCons (gName 9) (gNil)))) rfl sc_plain_by.nd (pi_enum rfl T.z_enumerate (pa_cons (pv 2) pa_nil)) (blkOk_by (N := ["turns", "wires", "found", "lot", "bits", "size", "others", "told", "place", "mark"]) (sc := defScope s_plain_by) (by decide +kernel)) (fun _ _ _ _ _ => (pg_tup rfl (pgs_cons (pg_name (i := 8) sc_plain_by.nd rfl (Or.inl rfl)) (pgs_cons (pg_name (i := 9) sc_plain_by.nd rfl (Or.inl rfl)) pgs_nil)))) (fun _ _ _ _ _ => (pts_one (pt_cmpR op_eq (pe_op op_andC (pe_op op_add (pv 8) pe_int) (pv 4)) (pv 4) (nomark _)))) (fun _ _ _ _ _ => (pv 9))) pa_nil)))
      (pss_cons (ps_set (i := 7) sc_plain_by.nd rfl (Or.inl rfl) (pe_op op_mul (pe_op op_fdiv (pe_call (ok_times_of T) (hr.mono (by decide)) rfl T.times_of.m T.times_of.F.kp T.times_of.b .nil pass0 (pa_cons (pv 0) (pa_cons (pv 1) (pa_cons (pv 3) pa_nil)))) (pe_op op_shlC pe_int (pe_op op_sub (pv 5) pe_int))) (pe_ifExp (pt_cmpR op_eq (pv 5) pe_int (nomark _)) (pe_un un_neg pe_int) pe_int)))
      (pss_one (ps_asg (pe_op op_mod (pe_op op_sub (pv 7) (pv 6)) (pe_op op_shrC (pe_op op_mul pe_int (pe_glob (v := .int 8) rfl T.gFULL ⟨_, rfl⟩)) (pv 5))) (pg_sub (pv 2) (pe_op op_sub (pv 4) pe_int) set_list)))))))
      (pss_one (ps_ret (pe_callTy call_tuple_of (by rfl) T.z_tuple (by decide +kernel) (pa_cons (pv 2) pa_nil)))))), ?_⟩
    refine ⟨by show 1 ≤ sizeLine; decide, fun l0 hl0 => ?_⟩
    refine ⟨_, rfl, a, _, rfl, .inr (Same.tup (Same.new hl0) hT), _, _, rfl, rfl, l0, _, _, rfl, rfl, upd_same, ?_, ?_, ?_, fun f hf => ?_⟩
    · rw [List.length_map]; omega
    · rw [List.length_map]; omega
    · rw [List.length_map, sizeLine_eq]
      show 1 * _ ≤ _
      omega
    have hk : (((List.map V.int ts).length : Nat) - 1 : Int).toNat = 2 ^ n - 1 := by rw [List.length_map]; omega
    have hff : H f = none := Same.free (Same.new hl0) hf
    have hlist : upd (upd H l0 (.lst [.int 0])) f (.lst (List.replicate (((List.map V.int ts).length : Nat) - 1 : Int).toNat [V.int 0]).flatten) f = some (.lst ((List.replicate (2 ^ n - 1) (0 : Int)).map V.int)) := by
      rw [upd_same, hk, rep_flat]
    have s0 : Same H (upd (upd H l0 (.lst [.int 0])) f (.lst (List.replicate (((List.map V.int ts).length : Nat) - 1 : Int).toNat [V.int 0]).flatten)) := (Same.new hl0).trans (Same.new hf)
    generalize hH1 : upd (upd H l0 (.lst [.int 0])) f (.lst (List.replicate (((List.map V.int ts).length : Nat) - 1 : Int).toNat [V.int 0]).flatten) = H1 at hlist s0
    refine ⟨_, rfl, n, 1, 3, rfl, hn, by omega, by omega, fun H2 p refs s1 hp hp1 hD => ?_⟩
    refine ⟨p, _, rfl, SqL.of hp1, fun pr hpr => ?_⟩
    have hDr : DpAll K (upd H2 pr (.lst refs.reverse)) refs.reverse ((lots n 1 3).reverse.map lotD) := by
      rw [List.map_reverse]
      exact DpAll.same (Same.new hpr) _ _ (DpAll.reverse hD)
    have s2 : Same H1 (upd H2 pr (.lst refs.reverse)) := s1.trans (Same.new hpr)
    have hrl := DpAll.len hDr
    rw [List.length_map] at hrl
    have hprf : H f = none := hff
    have hf2 : pr ≠ f := fun z => by
      rw [z, s1 _ _ hlist] at hpr
      cases hpr
    refine ⟨pr, rfl, ⟨_, SqL.of upd_same⟩, for_list (K := K) (a := pr) (xs := refs.reverse) (fun i σ H' => ∃ v3 v4 v5 v6 v7 : Option V, σ = [some (.ref a), some (.int n), some (.ref f), v3, v4, v5, v6, v7, none, none] ∧ Same H H' ∧ H' pr = some (.lst refs.reverse) ∧
      H' f = some (.lst ((plainFold n ts ((lots n 1 3).reverse.take i) (List.replicate (2 ^ n - 1) 0)).map V.int)) ∧ DpAll K H' refs.reverse ((lots n 1 3).reverse.map lotD))
      ⟨none, none, none, none, none, rfl, s0.trans s2, upd_same, s2 _ _ hlist, hDr⟩ (fun i σ H' _ ⟨_, _, _, _, _, _, _, e, _, _⟩ => SqL.of e) ?_ ?_⟩
    · rintro i x σ H3 hx ⟨v3, v4, v5, v6, v7, rfl, s3, hpr3, hf3, hD3⟩
      obtain ⟨d, hd1, hd2⟩ := DpAll.get hD3 hx
      rw [List.getElem?_map] at hd1
      cases hj : (lots n 1 3).reverse[i]? with
      | none => rw [hj] at hd1; cases hd1
      | some lot =>
        rw [hj] at hd1
        cases Option.some.inj hd1
        obtain ⟨c, rfl, hL⟩ := dpLot_inv hd2
        have hm : lot ∈ lots n 1 3 := List.mem_reverse.mp (List.mem_of_getElem? hj)
        have hlen := lots13_len n hn lot hm
        have hlt := lots_lt n hn lot hm
        obtain ⟨hb1, hb2⟩ := lots_bits n hn lot hm
        obtain ⟨r1, r2⟩ := rmod_pow (lot := lot) (by omega) (by omega)
        have efold := plainFold_succ (n := n) (ts := ts) (found := List.replicate (2 ^ n - 1) 0) hj
        generalize hFi : plainFold n ts ((lots n 1 3).reverse.take i) (List.replicate (2 ^ n - 1) 0) = Fi at hf3 efold
        have hFl : Fi.length = 2 ^ n - 1 := by rw [← hFi, plainFold_length, List.length_replicate]
        -- bits, size
        refine ⟨_, rfl, _, rfl, n, c, lot, rfl, .inr hL, hlt, by omega, by omega, fun H4 s4 => ?_⟩
        have hL4 := Same.tup s4 hL
        refine ⟨_, rfl, c, _, rfl, .inr hL4, by show 2 ≤ sizeLine; decide, fun t ht => ?_⟩
        refine ⟨t, _, rfl, SqT.of upd_same, rfl, _, _, rfl, _, _, rfl, rfl, ?_⟩
        have s5 : Same H3 (upd H4 t (.tup [.int (bits n lot : Nat), .int ((lotV lot).length : Nat)])) := s4.trans (Same.new ht)
        generalize upd H4 t (.tup [.int (bits n lot : Nat), .int ((lotV lot).length : Nat)]) = H5 at s5
        have hf5 := s5 _ _ hf3
        -- others
        refine ⟨_, rfl, f, _, rfl, SqL.of hf5, fun D hD5 => ?_⟩
        refine lc_pure walk_enum (fun i => (pick (restF (bits n lot)) Fi i).map V.int) (by rw [List.length_map]; omega) hD5 rfl (fun i _ => by rw [List.length_map]; exact pick_le _ _ _) (fun H6 e => Same.seq e (SqL.of hf5)) ?_ ?_
        · rintro j v H6 H7 hi sm ⟨T1, b1, b2, rfl, hnn, rfl, e1, e2⟩ yes no ky kn
          obtain ⟨rfl, hi2⟩ := ints_at e2
          cases Option.some.inj e1
          refine ⟨T1, _, rfl, SqT.of upd_same, rfl, _, _, rfl, _, _, rfl, rfl, rfl, ?_⟩
          refine ⟨_, rfl, _, _, rfl, rfl, _, rfl, j + 1, bits n lot, rfl, rfl, _, rfl, rfl, _, rfl, ?_⟩
          have ea := pick_succ (restF (bits n lot)) Fi j
          by_cases hz : (j + 1) &&& bits n lot = bits n lot
          · rw [decide_eq_true (show V.int (((j + 1) &&& bits n lot : Nat) : Int) = .int (bits n lot : Nat) by rw [hz])]
            refine ⟨_, rfl, ky _ _ (Same.new hnn) ?_⟩
            rw [ea, show restF (bits n lot) j (Fi.getD j 0) = some _ from if_pos hz]
            simp
          · rw [decide_eq_false (show ¬ V.int (((j + 1) &&& bits n lot : Nat) : Int) = .int (bits n lot : Nat) from fun q => hz (Int.ofNat.inj (V.int.inj q)))]
            refine kn _ (Same.new hnn) ?_
            rw [ea, show restF (bits n lot) j (Fi.getD j 0) = none from if_neg hz]
            simp
        · intro H6 e1 e2
          rw [List.length_map] at e2
          refine ⟨D, _, rfl, SqL.of e2, ?_⟩
          rw [restF_sum]
          -- told
          have s6 : Same H3 H6 := s5.trans e1
          refine ⟨_, rfl, _, rfl, _, rfl, a, c, ts, n, lot, rfl, Same.tup s6 (Same.tup s3 hT), Same.tup s6 hL, hn, hm, hl, fun H7 s7 => ?_⟩
          have s8 : Same H3 H7 := s6.trans s7
          have hL7 := Same.tup s8 hL
          have hf7 := s8 _ _ hf3
          have elv := lotV_len lot
          refine ⟨_, rfl, _, _, rfl, rfl, 1, lot.length - 1, rfl, ?_, by decide, by omega, ?_⟩
          · show V.int (((lotV lot).length : Nat) - 1) = _
            rw [elv]
            congr 1
            omega
          have hpw : ((1 * 2 ^ (lot.length - 1) : Nat) : Int) ≤ 4 ∧ 0 < ((1 * 2 ^ (lot.length - 1) : Nat) : Int) := by
            rcases hlen with e | e | e <;> rw [e] <;> decide
          refine ⟨_, _, rfl, rfl, ⟨hpw.2, by omega⟩, ?_⟩
          refine ⟨_, rfl, rfl, _, rfl, ?_⟩
          have fin : ∀ sg : Int, sg = (if lot.length = 2 then -1 else 1) → ∀ σ9 : L2.St, σ9 = [some (.ref a), some (.int n), some (.ref f), some (.ref c), some (.int (bits n lot : Nat)), some (.int ((lotV lot).length : Nat)), some (.int (asum (bits n lot) Fi)), some (.int (timesM n ts lot / ((1 * 2 ^ (lot.length - 1) : Nat) : Int) * sg)), none, none] →
              tAsg (tOp (rI (fun _ j => 0 < j) fun i j => .int (i % j)) (tOp (rI0 fun i j => .int (i - j)) (tVar 7) (tVar 6)) (tOp (rNN fun n k => n / 2 ^ k) (tOp (rI CMul fun i j => .int (i * j)) (tC (.int 2)) (tC (.int 8))) (tVar 5))) (gSub (tVar 2) (tOp (rI0 fun i j => .int (i - j)) (tVar 4) (tC (.int 1))) rSetL)
                { nx := fun σ H' => ∃ v3 v4 v5 v6 v7 : Option V, σ = [some (.ref a), some (.int n), some (.ref f), v3, v4, v5, v6, v7, none, none] ∧ Same H H' ∧ H' pr = some (.lst refs.reverse) ∧ H' f = some (.lst ((plainFold n ts ((lots n 1 3).reverse.take (i + 1)) (List.replicate (2 ^ n - 1) 0)).map V.int)) ∧ DpAll K H' refs.reverse ((lots n 1 3).reverse.map lotD), rt := Q } σ9 H7 := by
            intro sg hsg σ9 hσ
            subst hσ
            refine ⟨_, rfl, _, rfl, _, _, rfl, rfl, _, _, rfl, rfl, .inl (by decide), _, rfl, 16, lot.length, rfl, by rw [elv], ?_⟩
            refine ⟨_, _, rfl, rfl, ?_, _, rfl, _, rfl, _, _, rfl, rfl, f, _, _, bits n lot - 1, rfl, rfl, hf7, ?_, ?_⟩
            · show (0 : Int) < ((16 / 2 ^ lot.length : Nat) : Int)
              rw [r1]; exact r2
            · rw [show ((bits n lot : Nat) : Int) - 1 = ((bits n lot - 1 : Nat) : Int) by omega]
              exact ixN_nat (by rw [List.length_map, hFl]; omega)
            · refine ⟨some (.ref c), some (.int (bits n lot : Nat)), some (.int ((lotV lot).length : Nat)), some (.int (asum (bits n lot) Fi)), some (.int (timesM n ts lot / ((1 * 2 ^ (lot.length - 1) : Nat) : Int) * sg)), rfl, ?_, ?_, ?_, ?_⟩
              · exact Same.mut (s3.trans s8) hff
              · rw [upd_ne hf2]
                exact s8 _ _ hpr3
              · rw [upd_same, efold]
                show some (HO.lst ((Fi.map V.int).set _ (V.int ((_ - asum (bits n lot) Fi) % ((16 / 2 ^ lot.length : Nat) : Int))))) = _
                rw [r1, hsg, ← List.map_set]
                rfl
              · exact dpLots_mut hf7 Keep.upd (DpAll.same s8 _ _ hD3)
          by_cases h2 : lot.length = 2
          · rw [decide_eq_true (show V.int ((lotV lot).length : Nat) = .int 2 by rw [elv, h2]; rfl)]
            exact ⟨_, rfl, _, _, rfl, rfl, .inr (by decide), fin (-1) (by rw [if_pos h2]) _ rfl⟩
          · rw [decide_eq_false (show ¬ V.int ((lotV lot).length : Nat) = .int 2 from fun q => h2 (by have := V.int.inj q; omega))]
            exact ⟨_, _, rfl, rfl, .inr (by decide), fin 1 (by rw [if_neg h2]) _ rfl⟩
    · rintro σ H3 ⟨v3, v4, v5, v6, v7, rfl, s3, hpr3, hf3, hD3⟩
      rw [hrl, List.take_length] at hf3
      refine ⟨_, rfl, f, _, rfl, .inl ⟨SqL.of hf3, fun t ht => ?_⟩⟩
      exact k _ t (s3.trans (Same.new ht)) (Same.free s3 ht) upd_same
end
end E8
set_option Elab.async false
set_option linter.all false
set_option maxRecDepth 100000
/-! D5: tupled, the words of plain.py. -/
namespace E8
open PySem PySem.Spec PyProof.Rows L2
theorem pe_never {X : Cx} {e : Expr} : PE X e (fun _ _ _ => False) := ⟨fun _ _ _ _ _ _ h => h.elim⟩
theorem tyx_lst {K : PySem.W.Frag} {H : Hp} {a : Addr} {xs : List V} (h : SqL K H a xs) : TyX K H (.ref a) (.type "list") := by
  rcases h with (h | ⟨o, h⟩) | ⟨o, its, n, h1, h2, _⟩
  · exact .base (.lst h)
  · exact .base (.frz h)
  · exact .kList h1 h2
theorem tyx_tup {K : PySem.W.Frag} {H : Hp} {a : Addr} {xs : List V} (h : SqT K H a xs) : TyX K H (.ref a) (.type "tuple") := by
  rcases h with (h | ⟨o, h⟩) | ⟨o, its, n, h1, h2, _⟩
  · exact .base (.tup h)
  · exact .fTuple h
  · exact .kTuple h1 h2
theorem kit_lt {K : PySem.W.Frag} : PySem.W.kitAny K (.type "list") [.type "list", .type "tuple"] = some true ∧ PySem.W.kitAny K (.type "tuple") [.type "list", .type "tuple"] = some true ∧
    PySem.W.kitAny K (.type "int") [.type "list", .type "tuple"] = some false ∧ PySem.W.kitAny K (.type "bool") [.type "list", .type "tuple"] = some false ∧ PySem.W.kitAny K (.type "NoneType") [.type "list", .type "tuple"] = some false := by
  refine ⟨?_, ?_, ?_, ?_, ?_⟩
  · exact kitAny_cons (b := true) (kit_ty (by decide +kernel)) (fun z => nomatch z) fun _ => rfl
  · exact kitAny_cons (b := false) (kit_ty (by decide +kernel)) (fun _ => kitAny_cons (b := true) (kit_ty (by decide +kernel)) (fun z => nomatch z) fun _ => rfl) (fun z => nomatch z)
  · exact kitAny_cons (b := false) (kit_ty (by decide +kernel)) (fun _ => kitAny_cons (b := false) (kit_ty (by decide +kernel)) (fun _ => kitAny_nil) (fun z => nomatch z)) (fun z => nomatch z)
  · exact kitAny_cons (b := false) (kit_ty (by decide +kernel)) (fun _ => kitAny_cons (b := false) (kit_ty (by decide +kernel)) (fun _ => kitAny_nil) (fun z => nomatch z)) (fun z => nomatch z)
  · exact kitAny_cons (b := false) (kit_ty (by decide +kernel)) (fun _ => kitAny_cons (b := false) (kit_ty (by decide +kernel)) (fun _ => kitAny_nil) (fun z => nomatch z)) (fun z => nomatch z)
theorem cls_lt : Paired ClsV [V.ty "list", V.ty "tuple"] [Value.type "list", Value.type "tuple"] := .cons (.ty _) (.cons (.ty _) .nil)
/-! ### data made of tuples -/
mutual
def tupD : PyData → PyData
  | .list ds => .tuple (tupAll ds)
  | .tuple ds => .tuple (tupAll ds)
  | d => d
def tupAll : List PyData → List PyData
  | [] => []
  | d :: r => tupD d :: tupAll r
end
/-- ints, and lists and tuples of such, so deep -/
def Nice : Nat → PyData → Prop
  | 0, d => ∃ i, d = .int i
  | k + 1, d => (∃ i, d = .int i) ∨ ∃ ds, (d = .list ds ∨ d = .tuple ds) ∧ ds.length ≤ 1000 ∧ ∀ e ∈ ds, Nice k e
theorem tupAll_eq : ∀ ds, tupAll ds = ds.map tupD
  | [] => rfl
  | d :: r => by rw [tupAll, tupAll_eq r]; rfl
theorem tupAll_ints : ∀ ns : List Int, tupAll (dInts ns) = dInts ns
  | [] => rfl
  | n :: r => by
    show tupD (.int n) :: tupAll (dInts r) = .int n :: dInts r
    rw [tupAll_ints r]
    rfl
theorem nice_ints {k : Nat} (ns : List Int) : ∀ e ∈ dInts ns, Nice k e := fun e he => by
  obtain ⟨n, _, rfl⟩ := List.mem_map.mp he
  cases k with
  | zero => exact ⟨n, rfl⟩
  | succ k => exact .inl ⟨n, rfl⟩
/-! no list within -/
mutual
def noList : PyData → Bool
  | .list _ => false
  | .tuple ds => noLists ds
  | _ => true
def noLists : List PyData → Bool
  | [] => true
  | d :: r => noList d && noLists r
end
theorem noLists_all : ∀ {ds : List PyData}, (∀ d ∈ ds, noList d = true) → noLists ds = true
  | [], _ => rfl
  | d :: r, h => by
    rw [noLists, h d List.mem_cons_self, noLists_all fun e he => h e (List.mem_cons_of_mem _ he)]
    rfl
mutual
theorem to_tupD : ∀ d : PyData, noList (tupD d) = true
  | .none => rfl
  | .bool _ => rfl
  | .int _ => rfl
  | .str _ => rfl
  | .dict _ => rfl
  | .list ds => by
    show noLists (tupAll ds) = true
    exact to_tupAll ds
  | .tuple ds => by
    show noLists (tupAll ds) = true
    exact to_tupAll ds
theorem to_tupAll : ∀ ds : List PyData, noLists (tupAll ds) = true
  | [] => rfl
  | d :: r => by
    show (noList (tupD d) && noLists (tupAll r)) = true
    rw [to_tupD d, to_tupAll r]
    rfl
end
mutual
theorem dp_mut {K : PySem.W.Frag} {H H' : Hp} {l : Addr} {ys : List V} (hl : H l = some (.lst ys)) (k : Keep l H H') : ∀ (d : PyData) (v : V), noList d = true → Dp K H v d → Dp K H' v d
  | .none, _, _, h => by cases h; exact .non
  | .bool b, _, _, h => by cases h; exact .bl b
  | .int i, _, _, h => by cases h; exact .int i
  | .str x, _, _, h => by cases h; exact .str x
  | .list ds, _, n, h => by cases n
  | .tuple ds, _, n, h => by
    cases h with
    | tup hs ha => exact .tup (SqT.mut hl k hs) (dps_mut hl k ds _ n ha)
  | .dict _, _, _, h => by cases h
theorem dps_mut {K : PySem.W.Frag} {H H' : Hp} {l : Addr} {ys : List V} (hl : H l = some (.lst ys)) (k : Keep l H H') : ∀ (ds : List PyData) (vs : List V), noLists ds = true → DpAll K H vs ds → DpAll K H' vs ds
  | [], _, _, h => by cases h; exact .nil
  | d :: ds, _, n, h => by
    rw [noLists, Bool.and_eq_true] at n
    cases h with
    | cons h1 h2 => exact .cons (dp_mut hl k d _ n.1 h1) (dps_mut hl k ds _ n.2 h2)
end
theorem dpAll_mut {K : PySem.W.Frag} {H H' : Hp} {l : Addr} {ys : List V} (hl : H l = some (.lst ys)) (k : Keep l H H') {ds : List PyData} {vs : List V} (n : ∀ d ∈ ds, noList d = true) (h : DpAll K H vs ds) : DpAll K H' vs ds := dps_mut hl k ds vs (noLists_all n) h
/-- the items that are made of a list of data, one by one -/
theorem dpAll_snoc {K : PySem.W.Frag} {H : Hp} {xs : List V} {ds : List PyData} {x : V} {d : PyData} (h : DpAll K H xs ds) (h2 : Dp K H x d) : DpAll K H (xs ++ [x]) (ds ++ [d]) := DpAll.append h (.cons h2 .nil)
section
variable {P : Program} {w : World} {K : PySem.W.Frag} {mg : Str → Option Value} {base : Heap}
def spTup (K : PySem.W.Frag) (k : Nat) : Sp := fun vs H Q _ => ∃ (v : V) (d : PyData), vs = [v] ∧ Dp K H v d ∧ Nice k d ∧ ∀ v' H', Same H H' → Dp K H' v' (tupD d) → Q v' H'
theorem ok_tup (T : Txt K mg) : ∀ k, k ≤ 3 → FnOk P w K mg base CX0 (k + 1) T.tupled.f T.tupled.fd ["thing"] (spTup K k)
  | 0, _ => by
    refine T.tupled.F.ok sc_tupled (fun vs H Q E h => ?_) (fun cdv A outer s H vs Q E hr h => ?_)
    · obtain ⟨v, d, rfl, _⟩ := h; rfl
    · obtain ⟨v, d, rfl, hd, ⟨i, rfl⟩, k⟩ := h
      cases hd
      refine ⟨_, (pss_one (ps_ret (pe_ifExp (pt_val (pe_callB call_isiT (by rfl) T.z_isinstance (by decide +kernel) (pa_cons (pv 0) (pa_cons (pe_tup (pa_cons (pe_bltn (v := .ty "list") rfl T.z_list (by decide +kernel) rfl) (pa_cons (pe_bltn (v := .ty "tuple") rfl T.z_tuple (by decide +kernel) rfl) pa_nil))) pa_nil)))) (pe_never) (pv 0)))), ?_⟩
      refine ⟨_, rfl, by show 2 ≤ sizeLine; decide, fun t ht => ⟨_, t, _, _, _, false, rfl, upd_same, cls_lt, .base (.int i), kit_lt.2.2.1, false, rfl, _, rfl, k _ _ (Same.new ht) (.int i)⟩⟩
  | k + 1, hk => by
    have G := ok_tup T k (by omega)
    refine T.tupled.F.ok sc_tupled (fun vs H Q E h => ?_) (fun cdv A outer s H vs Q E hr h => ?_)
    · obtain ⟨v, d, rfl, _⟩ := h; rfl
    · obtain ⟨v, d, rfl, hd, hN, kk⟩ := h
      refine ⟨_, (pss_one (ps_ret (pe_ifExp (pt_val (pe_callB call_isiT (by rfl) T.z_isinstance (by decide +kernel) (pa_cons (pv 0) (pa_cons (pe_tup (pa_cons (pe_bltn (v := .ty "list") rfl T.z_list (by decide +kernel) rfl) (pa_cons (pe_bltn (v := .ty "tuple") rfl T.z_tuple (by decide +kernel) rfl) pa_nil))) pa_nil)))) (pe_callTy call_tuple_of (by rfl) T.z_tuple (by decide +kernel) (pa_cons (pe_lc (own := [("part", 1)]) (g := gName 1) (tt := tYes) rfl sc_tupled.nd (pi_seq (pv 0)) (blkOk_by (N := ["thing", "part"]) (sc := defScope s_tupled) (by decide +kernel)) (fun _ _ _ _ _ => (pg_name (i := 1) sc_tupled.nd rfl (Or.inl rfl))) (fun _ _ _ _ _ => pts_nil) (fun _ _ _ _ _ => (pe_call G hr rfl T.tupled.m T.tupled.F.kp T.tupled.b .nil pass0 (pa_cons (pv 1) pa_nil)))) pa_nil)) (pv 0)))), ?_⟩
      refine ⟨_, rfl, by show 2 ≤ sizeLine; decide, fun t ht => ?_⟩
      have st : Same H (upd H t (.tup [.ty "list", .ty "tuple"])) := Same.new ht
      rcases hN with ⟨i, rfl⟩ | ⟨ds, hds, hlen, hall⟩
      · cases hd
        exact ⟨_, t, _, _, _, false, rfl, upd_same, cls_lt, .base (.int i), kit_lt.2.2.1, false, rfl, _, rfl, kk _ _ st (.int i)⟩
      · have e1 : tupD d = .tuple (tupAll ds) := by rcases hds with rfl | rfl <;> rfl
        rw [e1, tupAll_eq] at kk
        have body : ∀ (a : Addr) (xs : List V) (J : It) (GG : Hp → Prop) (HH : Hp), Walk J xs.length GG (YAt xs) → (∀ H1, Same HH H1 → GG H1) → Same H HH → DpAll K HH xs ds → ∀ D, HH D = none → ∀ Qd : Hp → Prop, (∀ H1 ys, Same HH H1 → H1 D = some (.lst ys) → DpAll K H1 ys (ds.map tupD) → Qd H1) →
            ∃ W : Nat → Nat → Hp → Prop, (∃ m, W 0 m (upd HH D (.lst []))) ∧ ∀ i m H, W i m H → (J.stop i H ∧ Qd H) ∨ (J.go i H ∧ ∃ Nx : Hp → Prop, (∀ H', Nx H' → ∃ m', m' < m ∧ W (i + 1) m' H') ∧ ∀ x H', J.yld i H x H' → gName 1 x (wipe (start ["thing", "part"] [V.ref a]) [1]) H' fun σ2 H2 => wipe σ2 [1] = wipe (start ["thing", "part"] [V.ref a]) [1] ∧ tYes σ2 H2 fun b H3 =>
              if b = true then tCall (spTup K k) [] E0 (tCons (tVar 1) tNil) σ2 H3 fun y H4 => ∃ acc, H4 D = some (.lst acc) ∧ acc.length < sizeLine ∧ Nx (upd H4 D (.lst (acc ++ [y]))) else Nx H3) := by
          intro a xs J GG HH wk hG sH hD D hDn Qd hq
          have hxl := DpAll.len hD
          refine lc_it wk (fun i H1 => Same HH H1 ∧ ∃ ys, H1 D = some (.lst ys) ∧ ys.length = i ∧ DpAll K H1 ys ((ds.take i).map tupD)) ⟨Same.new hDn, [], upd_same, rfl, .nil⟩ (fun i H1 _ p => hG H1 p.1) ?_ ?_
          · rintro i x H1 H2 hi ⟨s1, ys, hy, hyl, dx⟩ ⟨rfl, hx⟩
            obtain ⟨d', hd1, hd2⟩ := DpAll.get hD hx
            refine ⟨rfl, x, rfl, x, d', rfl, Dp.same s1 _ _ hd2, hall d' (List.mem_of_getElem? hd1), fun v' H4 s4 dv => ?_⟩
            refine ⟨ys, s4 _ _ hy, small16' (by omega), Same.mut (s1.trans s4) hDn, _, upd_same, by rw [List.length_append, hyl]; rfl, ?_⟩
            obtain ⟨hlt, e2⟩ := List.getElem?_eq_some_iff.mp hd1
            rw [List.take_succ_eq_append_getElem hlt, e2, List.map_append]
            refine dpAll_mut (s4 _ _ hy) Keep.upd (fun d hd => ?_) (dpAll_snoc (DpAll.same s4 _ _ dx) dv)
            rcases List.mem_append.mp hd with z | z
            · obtain ⟨d0, _, rfl⟩ := List.mem_map.mp z
              exact to_tupD d0
            · rw [List.mem_singleton.mp z]
              exact to_tupD d'
          · rintro H1 ⟨s1, ys, hy, hyl, dx⟩
            rw [hxl, List.take_length] at dx
            exact hq H1 ys s1 hy dx
        rcases hds with rfl | rfl
        · cases hd with
          | lst hs ha =>
            refine ⟨_, t, _, _, _, true, rfl, upd_same, cls_lt, tyx_lst (Same.seq st hs), kit_lt.1, true, rfl, ?_⟩
            refine ⟨_, rfl, _, rfl, .inl ⟨⟨_, Same.seq st hs⟩, fun D hD => body _ _ _ _ _ walk_list (fun H1 e => Same.seq e (Same.seq st hs)) st (DpAll.same st _ _ ha) D hD _ fun H1 ys s1 hy dy => ?_⟩⟩
            exact ⟨D, _, rfl, .inl ⟨SqL.of hy, fun p hp => kk _ _ ((st.trans s1).trans (Same.new hp)) (.tup (SqT.of upd_same) (DpAll.same (Same.new hp) _ _ dy))⟩⟩
        · cases hd with
          | tup hs ha =>
            refine ⟨_, t, _, _, _, true, rfl, upd_same, cls_lt, tyx_tup (Same.tup st hs), kit_lt.2.1, true, rfl, ?_⟩
            refine ⟨_, rfl, _, rfl, .inr ⟨⟨_, Same.tup st hs⟩, fun D hD => body _ _ _ _ _ walk_tup (fun H1 e => Same.tup e (Same.tup st hs)) st (DpAll.same st _ _ ha) D hD _ fun H1 ys s1 hy dy => ?_⟩⟩
            exact ⟨D, _, rfl, .inl ⟨SqL.of hy, fun p hp => kk _ _ ((st.trans s1).trans (Same.new hp)) (.tup (SqT.of upd_same) (DpAll.same (Same.new hp) _ _ dy))⟩⟩
end
end E8
set_option Elab.async false
set_option linter.all false
set_option maxRecDepth 100000
/-! D6: the words of plain.py, further. -/
namespace E8
open PySem PySem.Spec PyProof.Rows L2
theorem kit_ii {K : PySem.W.Frag} : PySem.W.kitOne K (.type "int") (.type "int") = some true := kit_ty (by decide +kernel)
theorem kit_ib {K : PySem.W.Frag} : PySem.W.kitOne K (.type "int") (.type "bool") = some false := kit_ty (by decide +kernel)
theorem kit_tt {K : PySem.W.Frag} : PySem.W.kitOne K (.type "tuple") (.type "tuple") = some true := kit_ty (by decide +kernel)
theorem kit_nt {K : PySem.W.Frag} : PySem.W.kitOne K (.type "NoneType") (.type "tuple") = some false := kit_ty (by decide +kernel)
theorem walk_zipT {K : PySem.W.Frag} {a b : Addr} {xs ys : List V} {n : Nat} (hn : n = min xs.length ys.length) : Walk (RZ.ItzT K a b) n (fun H => SqT K H a xs ∧ SqT K H b ys) (YPair (fun i => xs[i]?) (fun i => ys[i]?)) := by
  subst hn
  refine ⟨fun i _ hi q => ?_, fun _ q => ⟨xs, ys, q.1, q.2, by omega⟩, fun i H v H' _ q y => ?_⟩
  · have g1 : i < xs.length := by omega
    have g2 : i < ys.length := by omega
    exact ⟨xs, ys, xs[i], ys[i], q.1, q.2, by simp [g1], by simp [g2]⟩
  · obtain ⟨T, x, z, h1, h2, h3, h4, h5⟩ := y
    exact ⟨T, x, z, h1, h2, h3, h4 xs q.1, h5 ys q.2⟩
theorem cut1 (xs : List V) : cutV xs (some 1) none = xs.drop 1 := by
  unfold cutV
  rw [show (some (1 : Int)) = some ((1 : Nat) : Int) from rfl, HT.sIx_nat, HT.sIx_none]
  by_cases h : 1 ≤ xs.length
  · rw [Nat.min_eq_left h, List.take_of_length_le (by rw [List.length_drop]; omega)]
  · have : xs = [] := List.eq_nil_of_length_eq_zero (by omega)
    subst this
    rfl
/-- each below the next -/
def Asc (lot : List Nat) : Prop := ∀ i a b, lot[i]? = some a → lot[i + 1]? = some b → a < b
section
variable {P : Program} {w : World} {K : PySem.W.Frag} {mg : Str → Option Value} {base : Heap}
def spNum : Sp := fun vs H Q _ => ∃ i : Int, vs = [.int i] ∧ Q (.bl true) H
theorem ok_is_number (T : Txt K mg) : FnOk P w K mg base CX0 1 T.is_number.f T.is_number.fd ["thing"] spNum := by
  refine T.is_number.F.ok sc_is_number (fun vs H Q E h => ?_) (fun cdv A outer s H vs Q E hr h => ?_)
  · obtain ⟨i, rfl, _⟩ := h; rfl
  · obtain ⟨i, rfl, k⟩ := h
    refine ⟨_, (pss_one (ps_ret (pe_and (pe_callB call_isi (by rfl) T.z_isinstance (by decide +kernel) (pa_cons (pv 0) (pa_cons (pe_bltn (v := .ty "int") rfl T.z_int (by decide +kernel) rfl) pa_nil))) (pe_one (pe_not (pe_callB call_isi (by rfl) T.z_isinstance (by decide +kernel) (pa_cons (pv 0) (pa_cons (pe_bltn (v := .ty "bool") rfl T.z_bool (by decide +kernel) rfl) pa_nil)))))))), ?_⟩
    exact ⟨_, rfl, _, _, _, _, true, rfl, .ty _, .base (.int i), kit_ii, true, rfl, _, rfl, _, _, _, _, false, rfl, .ty _, .base (.int i), kit_ib, false, rfl, k⟩
def spCnt : Sp := fun vs H Q _ => ∃ i : Int, vs = [.int i] ∧ Q (.bl (decide (0 ≤ i))) H
theorem ok_is_count (T : Txt K mg) : FnOk P w K mg base CX0 2 T.is_count.f T.is_count.fd ["thing"] spCnt := by
  refine T.is_count.F.ok sc_is_count (fun vs H Q E h => ?_) (fun cdv A outer s H vs Q E hr h => ?_)
  · obtain ⟨i, rfl, _⟩ := h; rfl
  · obtain ⟨i, rfl, k⟩ := h
    refine ⟨_, (pss_one (ps_ret (pe_and (pe_call (ok_is_number T) (hr.mono (by decide)) rfl T.is_number.m T.is_number.F.kp T.is_number.b .nil pass0 (pa_cons (pv 0) pa_nil)) (pe_one (pe_cmpR op_ge (pv 0) pe_int (nomark _)))))), ?_⟩
    exact ⟨_, rfl, i, rfl, true, rfl, _, rfl, _, _, rfl, rfl, k⟩
def spBel : Sp := fun vs H Q _ => ∃ i m : Int, vs = [.int i, .int m] ∧ Q (.bl (decide (0 ≤ i ∧ i < m))) H
theorem ok_is_below (T : Txt K mg) : FnOk P w K mg base CX0 3 T.is_below.f T.is_below.fd ["thing", "many"] spBel := by
  refine T.is_below.F.ok sc_is_below (fun vs H Q E h => ?_) (fun cdv A outer s H vs Q E hr h => ?_)
  · obtain ⟨i, m, rfl, _⟩ := h; rfl
  · obtain ⟨i, m, rfl, k⟩ := h
    refine ⟨_, (pss_one (ps_ret (pe_and (pe_call (ok_is_count T) (hr.mono (by decide)) rfl T.is_count.m T.is_count.F.kp T.is_count.b .nil pass0 (pa_cons (pv 0) pa_nil)) (pe_one (pe_cmpR op_lt (pv 0) (pv 1) (nomark _)))))), ?_⟩
    refine ⟨_, rfl, i, rfl, _, rfl, ?_⟩
    by_cases h0 : 0 ≤ i
    · rw [decide_eq_true h0]
      refine ⟨_, rfl, _, rfl, _, _, rfl, rfl, ?_⟩
      have e : decide (0 ≤ i ∧ i < m) = decide (i < m) := by simp [h0]
      rw [e] at k
      exact k
    · rw [decide_eq_false h0]
      have e : decide (0 ≤ i ∧ i < m) = false := by simp [h0]
      rw [e] at k
      exact k
def spTof (K : PySem.W.Frag) : Sp := fun vs H Q _ => ∃ (v : V) (n : Int), vs = [v, .int n] ∧ ((v = .non ∧ Q (.bl false) H) ∨ ∃ a xs, v = .ref a ∧ SqT K H a xs ∧ Q (.bl (decide (V.int (xs.length : Nat) = V.int n))) H)
theorem ok_is_tuple_of (T : Txt K mg) : FnOk P w K mg base CX0 1 T.is_tuple_of.f T.is_tuple_of.fd ["thing", "size"] (spTof K) := by
  refine T.is_tuple_of.F.ok sc_is_tuple_of (fun vs H Q E h => ?_) (fun cdv A outer s H vs Q E hr h => ?_)
  · obtain ⟨v, n, rfl, _⟩ := h; rfl
  · obtain ⟨v, n, rfl, k⟩ := h
    refine ⟨_, (pss_one (ps_ret (pe_and (pe_callB call_isi (by rfl) T.z_isinstance (by decide +kernel) (pa_cons (pv 0) (pa_cons (pe_bltn (v := .ty "tuple") rfl T.z_tuple (by decide +kernel) rfl) pa_nil))) (pe_one (pe_cmpR op_eq (pe_callB call_lenC (by rfl) T.z_len (by decide +kernel) (pa_cons (pv 0) pa_nil)) (pv 1) (nomark _)))))), ?_⟩
    rcases k with ⟨rfl, k⟩ | ⟨a, xs, rfl, hT, k⟩
    · exact ⟨_, rfl, _, _, _, _, false, rfl, .ty _, .base .non, kit_nt, false, rfl, k⟩
    · exact ⟨_, rfl, _, _, _, _, true, rfl, .ty _, tyx_tup hT, kit_tt, true, rfl, _, rfl, a, _, rfl, .inr hT, _, rfl, rfl, k⟩
def spAsc (K : PySem.W.Frag) : Sp := fun vs H Q _ => ∃ (a : Addr) (lot : List Nat), vs = [.ref a] ∧ SqT K H a (lotV lot) ∧ 1 ≤ lot.length ∧ lot.length ≤ 100 ∧ Asc lot ∧ ∀ H', Same H H' → Q (.bl true) H'
theorem ok_ascends (T : Txt K mg) : FnOk P w K mg base CX0 1 T.ascends.f T.ascends.fd ["thing"] (spAsc K) := by
  refine T.ascends.F.ok sc_ascends (fun vs H Q E h => ?_) (fun cdv A outer s H vs Q E hr h => ?_)
  · obtain ⟨a, lot, rfl, _⟩ := h; rfl
  · obtain ⟨a, lot, rfl, hT, h1, hl, ha, k⟩ := h
    refine ⟨_, (pss_one (ps_ret (pe_callB (cr_all rfl) (by rfl) T.z_all (by decide +kernel) (pa_cons (pe_lc (own := [("near", 1), ("far", 2)]) (g := gTup K 2 (gCons (gName 1) (gCons (gName 2) (gNil)))) (tt := tYes) rfl sc_ascends.nd (RZ.pi_zipA rfl T.z_zip (pa_cons (pv 0) (pa_cons (pe_slice sl_tupA (pv 0) (po_some pe_int) po_none) pa_nil))) (blkOk_by (N := ["thing", "near", "far"]) (sc := defScope s_ascends) (by decide +kernel)) (fun _ _ _ _ _ => (pg_tup rfl (pgs_cons (pg_name (i := 1) sc_ascends.nd rfl (Or.inl rfl)) (pgs_cons (pg_name (i := 2) sc_ascends.nd rfl (Or.inl rfl)) pgs_nil)))) (fun _ _ _ _ _ => pts_nil) (fun _ _ _ _ _ => (pe_cmpR op_lt (pv 1) (pv 2) (nomark _)))) pa_nil)))), ?_⟩
    refine ⟨_, rfl, _, rfl, _, rfl, a, _, rfl, hT, fun z => ?_, fun _ p hp => ?_⟩
    · exfalso
      have z1 := z.1
      rw [show (some (1 : Int)) = some ((1 : Nat) : Int) from rfl, HT.sIx_nat, lotV_len] at z1
      omega
    rw [cut1]
    refine ⟨a, p, lotV lot, (lotV lot).drop 1, rfl, .inr ⟨Same.tup (Same.new hp) hT, SqT.of upd_same, fun D hD => ?_⟩⟩
    have hn : lot.length - 1 = min (lotV lot).length ((lotV lot).drop 1).length := by rw [List.length_drop, lotV_len]; omega
    refine lc_pure (n := lot.length - 1) (walk_zipT hn) (fun i => (List.replicate i true).map V.bl) (by omega) hD rfl (fun i _ => by simp) (fun H1 e => ⟨Same.tup e (Same.tup (Same.new hp) hT), Same.tup e (SqT.of upd_same)⟩) ?_ ?_
    · rintro i v H1 H2 hi sm ⟨T1, b1, b2, rfl, hnn, rfl, e1, e2⟩ yes no ky kn
      obtain ⟨q1, f1, rfl⟩ := lotV_at e1
      dsimp only at e2
      rw [List.getElem?_drop, Nat.add_comm 1 i] at e2
      obtain ⟨q2, f2, rfl⟩ := lotV_at e2
      refine ⟨T1, _, rfl, SqT.of upd_same, rfl, _, _, rfl, _, _, rfl, rfl, rfl, ?_⟩
      refine ⟨_, rfl, _, rfl, _, _, rfl, rfl, ?_⟩
      have hlt := ha i q1 q2 f1 f2
      show yes (.bl (decide (((q1 : Nat) : Int) < (q2 : Nat)))) _
      rw [decide_eq_true (show ((q1 : Nat) : Int) < (q2 : Nat) by omega)]
      refine ky _ _ (Same.new hnn) ?_
      rw [List.replicate_succ', List.map_append]
      rfl
    · intro H1 e1 e2
      refine ⟨D, _, rfl, SqL.of e2, ?_⟩
      have : (List.replicate (lot.length - 1) true).all id = true := by simp
      rw [this]
      exact k H1 ((Same.new hp).trans e1)
def spNset (K : PySem.W.Frag) : Sp := fun vs H Q _ => ∃ (a : Addr) (lot : List Nat) (n : Nat), vs = [.ref a, .int n] ∧ SqT K H a (lotV lot) ∧ 1 ≤ lot.length ∧ lot.length ≤ 100 ∧ Asc lot ∧ (∀ q ∈ lot, q < n) ∧ ∀ H', Same H H' → Q (.bl true) H'
theorem ok_is_number_set (T : Txt K mg) : FnOk P w K mg base CX0 4 T.is_number_set.f T.is_number_set.fd ["thing", "many"] (spNset K) := by
  refine T.is_number_set.F.ok sc_is_number_set (fun vs H Q E h => ?_) (fun cdv A outer s H vs Q E hr h => ?_)
  · obtain ⟨a, lot, n, rfl, _⟩ := h; rfl
  · obtain ⟨a, lot, n, rfl, hT, h1, hl, ha, hq, k⟩ := h
    refine ⟨_, (pss_cons (ps_if (PW.pt (pw_or (pt_not (pt_val (pe_callB call_isi (by rfl) T.z_isinstance (by decide +kernel) (pa_cons (pv 0) (pa_cons (pe_bltn (v := .ty "tuple") rfl T.z_tuple (by decide +kernel) rfl) pa_nil))))) (pw_or1 (pt_not (pt_val (pe_callB (cr_all rfl) (by rfl) T.z_all (by decide +kernel) (pa_cons (pe_lc (own := [("part", 2)]) (g := gName 2) (tt := tYes) rfl sc_is_number_set.nd (pi_tup (pv 0)) (blkOk_by (N := ["thing", "many", "part"]) (sc := defScope s_is_number_set) (by decide +kernel)) (fun _ _ _ _ _ => (pg_name (i := 2) sc_is_number_set.nd rfl (Or.inl rfl))) (fun _ _ _ _ _ => pts_nil) (fun _ _ _ _ _ => (pe_call (ok_is_below T) (hr.mono (by decide)) rfl T.is_below.m T.is_below.F.kp T.is_below.b .nil pass0 (pa_cons (pv 2) (pa_cons (pv 1) pa_nil))))) pa_nil))))))) (pss_one (ps_ret pe_bl)) pss_nil)
      (pss_one (ps_ret (pe_call (ok_ascends T) (hr.mono (by decide)) rfl T.ascends.m T.ascends.F.kp T.ascends.b .nil pass0 (pa_cons (pv 0) pa_nil))))), ?_⟩
    refine ⟨_, rfl, _, _, _, _, true, rfl, .ty _, tyx_tup hT, kit_tt, true, rfl, ?_⟩
    refine ⟨_, rfl, a, rfl, ⟨_, hT⟩, fun D hD => ?_⟩
    refine lc_pure walk_tup (fun i => (List.replicate i true).map V.bl) (by rw [lotV_len]; omega) hD rfl (fun i _ => by simp) (fun H1 e => Same.tup e hT) ?_ ?_
    · rintro i v H1 H2 hi sm ⟨rfl, e1⟩ yes no ky kn
      obtain ⟨q1, f1, rfl⟩ := lotV_at e1
      refine ⟨rfl, _, rfl, _, rfl, _, _, rfl, ?_⟩
      have hlt := hq q1 (List.mem_of_getElem? f1)
      rw [decide_eq_true (show (0 : Int) ≤ (q1 : Nat) ∧ ((q1 : Nat) : Int) < (n : Nat) by omega)]
      refine ky _ _ (Same.refl _) ?_
      rw [List.replicate_succ', List.map_append]
      rfl
    · intro H1 e1 e2
      refine ⟨D, _, rfl, SqL.of e2, true, ?_, ?_⟩
      · simp
      · exact ⟨_, rfl, a, lot, rfl, Same.tup e1 hT, h1, hl, ha, fun H2 s2 => k H2 (e1.trans s2)⟩
def spFew : Sp := fun vs H Q _ => ∃ n : Nat, vs = [.int n] ∧ n ≤ 5 ∧ Q .non H
theorem ok_sure_few (T : Txt K mg) : FnOk P w K mg base CX0 1 T.sure_few.f T.sure_few.fd ["wires"] spFew := by
  refine T.sure_few.F.ok sc_sure_few (fun vs H Q E h => ?_) (fun cdv A outer s H vs Q E hr h => ?_)
  · obtain ⟨n, rfl, _⟩ := h; rfl
  · obtain ⟨n, rfl, hn, k⟩ := h
    refine ⟨_, (pss_one (ps_if (pt_cmpR op_gt (pv 0) (pe_glob (v := .int 5) rfl T.gMOST ⟨_, rfl⟩) (nomark _)) (pss_one ps_never) pss_nil)), ?_⟩
    refine ⟨_, rfl, _, _, rfl, rfl, _, rfl, ?_⟩
    rw [decide_eq_false (show ¬ (5 : Int) < (n : Nat) by omega)]
    exact k
end
end E8
set_option Elab.async false
set_option linter.all false
set_option maxRecDepth 100000
/-! D7: marked_told, both_told, marks_told, turns_of, plain_marks. -/
namespace E8
open PySem PySem.Spec PyProof.Rows L2
/-- a marked turn as a tuple of tuples -/
def dMk (t : Int) (maps : List Int) (f : Int) (ms : List Int) : PyData := .tuple [.int t, .tuple (dInts maps), .int f, .tuple (dInts ms)]
theorem dMk_inv {K : PySem.W.Frag} {H : Hp} {v : V} {t f : Int} {maps ms : List Int} (h : Dp K H v (dMk t maps f ms)) : ∃ a b c, v = .ref a ∧ SqT K H a [.int t, .ref b, .int f, .ref c] ∧ SqT K H b (maps.map V.int) ∧ SqT K H c (ms.map V.int) := by
  cases h with
  | tup hs ha =>
    cases ha with
    | cons h1 ha =>
      cases ha with
      | cons h2 ha =>
        cases ha with
        | cons h3 ha =>
          cases ha with
          | cons h4 ha =>
            cases ha
            cases h1
            cases h3
            obtain ⟨b, rfl, g2⟩ := dpTupI_inv h2
            obtain ⟨c, rfl, g4⟩ := dpTupI_inv h4
            exact ⟨_, b, c, rfl, hs, g2, g4⟩
section
variable {P : Program} {w : World} {K : PySem.W.Frag} {mg : Str → Option Value} {base : Heap}
def spMt (K : PySem.W.Frag) : Sp := fun vs H Q _ => ∃ (v : V) (d : PyData) (t : Int) (maps : List Int) (f : Int) (ms : List Int), vs = [v] ∧ Dp K H v d ∧ Nice 2 d ∧ tupD d = dMk t maps f ms ∧ maps.length ≤ 5 ∧ ∀ v' H', Same H H' → Dp K H' v' (dMk t maps f ms) → Q v' H'
theorem ok_marked_told (T : Txt K mg) : FnOk P w K mg base CX0 4 T.marked_told.f T.marked_told.fd ["marked"] (spMt K) := by
  have G := ok_tup (P := P) (w := w) (base := base) T 2 (by decide)
  refine T.marked_told.F.ok sc_marked_told (fun vs H Q E h => ?_) (fun cdv A outer s H vs Q E hr h => ?_)
  · obtain ⟨v, d, t, maps, f, ms, rfl, _⟩ := h; rfl
  · obtain ⟨v, d, t, maps, f, ms, rfl, hd, hN, ht, hm, k⟩ := h
    refine ⟨_, (pss_cons (ps_set (i := 1) sc_marked_told.nd rfl (Or.inl rfl) (pe_call G (hr.mono (by decide)) rfl T.tupled.m T.tupled.F.kp T.tupled.b .nil pass0 (pa_cons (pv 0) pa_nil)))
      (pss_cons (ps_expr (pe_call (ok_sure_few T) (hr.mono (by decide)) rfl T.sure_few.m T.sure_few.F.kp T.sure_few.b .nil pass0 (pa_cons (pe_callB call_lenC (by rfl) T.z_len (by decide +kernel) (pa_cons (pe_ix (r := rIxT K) ix_tup (pv 1) pe_int (fun _ _ => rfl)) pa_nil)) pa_nil)))
      (pss_one (ps_ret (pv 1))))), ?_⟩
    refine ⟨_, rfl, v, d, rfl, hd, hN, fun v1 H1 s1 hd1 => ?_⟩
    rw [ht] at hd1
    obtain ⟨a, b, c, rfl, ha, hb, hc⟩ := dMk_inv hd1
    refine ⟨_, rfl, a, _, 1, .ref b, rfl, rfl, ha, rfl, b, _, rfl, .inr hb, maps.length, by rw [List.length_map]; rfl, hm, ?_⟩
    exact ⟨_, rfl, k _ _ s1 hd1⟩
def spBt (K : PySem.W.Frag) : Sp := fun vs H Q _ => ∃ (v1 v2 : V) (d1 d2 : PyData) (t1 t2 : Int) (maps1 maps2 : List Int) (f1 f2 : Int) (ms1 ms2 : List Int), vs = [v1, v2] ∧ Dp K H v1 d1 ∧ Nice 2 d1 ∧ tupD d1 = dMk t1 maps1 f1 ms1 ∧ Dp K H v2 d2 ∧ Nice 2 d2 ∧ tupD d2 = dMk t2 maps2 f2 ms2 ∧
  maps1.length ≤ 5 ∧ maps2.length = maps1.length ∧ ∀ p w1 w2 H', Same H H' → SqT K H' p [w1, w2] → Dp K H' w1 (dMk t1 maps1 f1 ms1) → Dp K H' w2 (dMk t2 maps2 f2 ms2) → Q (.ref p) H'
theorem ok_both_told (T : Txt K mg) : FnOk P w K mg base CX0 5 T.both_told.f T.both_told.fd ["one", "other"] (spBt K) := by
  refine T.both_told.F.ok sc_both_told (fun vs H Q E h => ?_) (fun cdv A outer s H vs Q E hr h => ?_)
  · obtain ⟨v1, v2, d1, d2, t1, t2, maps1, maps2, f1, f2, ms1, ms2, rfl, _⟩ := h; rfl
  · obtain ⟨v1, v2, d1, d2, t1, t2, maps1, maps2, f1, f2, ms1, ms2, rfl, h1, n1, e1, h2, n2, e2, l1, l2, k⟩ := h
    refine ⟨_, (pss_cons (ps_par (i := 2) (j := 3) rfl sc_both_told.nd rfl rfl (by decide) rfl rfl (pa_cons (pe_call (ok_marked_told T) (hr.mono (by decide)) rfl T.marked_told.m T.marked_told.F.kp T.marked_told.b .nil pass0 (pa_cons (pv 0) pa_nil)) (pa_cons (pe_call (ok_marked_told T) (hr.mono (by decide)) rfl T.marked_told.m T.marked_told.F.kp T.marked_told.b .nil pass0 (pa_cons (pv 1) pa_nil)) pa_nil)) (by rfl))
      (pss_cons (ps_if (pt_cmpR op_ne (pe_callB call_lenC (by rfl) T.z_len (by decide +kernel) (pa_cons (pe_ix (r := rIxT K) ix_tup (pv 2) pe_int (fun _ _ => rfl)) pa_nil)) (pe_callB call_lenC (by rfl) T.z_len (by decide +kernel) (pa_cons (pe_ix (r := rIxT K) ix_tup (pv 3) pe_int (fun _ _ => rfl)) pa_nil)) (nomark _)) (pss_one ps_never) pss_nil)
      (pss_one (ps_ret (pe_tup (pa_cons (pv 2) (pa_cons (pv 3) pa_nil))))))), ?_⟩
    refine ⟨_, rfl, v1, d1, t1, maps1, f1, ms1, rfl, h1, n1, e1, l1, fun w1 H1 s1 g1 => ?_⟩
    refine ⟨_, rfl, v2, d2, t2, maps2, f2, ms2, rfl, Dp.same s1 _ _ h2, n2, e2, by omega, fun w2 H2 s2 g2 => ?_⟩
    have g1' := Dp.same s2 _ _ g1
    refine ⟨w1, w2, rfl, ?_⟩
    obtain ⟨a1, b1, c1, rfl, ha1, hb1, hc1⟩ := dMk_inv g1'
    obtain ⟨a2, b2, c2, rfl, ha2, hb2, hc2⟩ := dMk_inv g2
    refine ⟨_, rfl, a1, _, 1, .ref b1, rfl, rfl, ha1, rfl, b1, _, rfl, .inr hb1, _, rfl, a2, _, 1, .ref b2, rfl, rfl, ha2, rfl, b2, _, rfl, .inr hb2, rfl, _, rfl, ?_⟩
    rw [decide_eq_true (show V.int ((maps1.map V.int).length : Nat) = .int ((maps2.map V.int).length : Nat) by rw [List.length_map, List.length_map, l2])]
    refine ⟨_, rfl, _, rfl, by show 2 ≤ sizeLine; decide, fun p hp => ?_⟩
    exact k p _ _ _ ((s1.trans s2).trans (Same.new hp)) (SqT.of upd_same) (Dp.same (Same.new hp) _ _ g1') (Dp.same (Same.new hp) _ _ g2)
def spMk (K : PySem.W.Frag) : Sp := fun vs H Q _ => ∃ (a : Addr) (ms : List Int) (n : Nat), vs = [.ref a] ∧ (SqL K H a (ms.map V.int) ∨ SqT K H a (ms.map V.int)) ∧ ms.length = 2 ^ n - 1 ∧ n ≤ 5 ∧
  ∀ p c H', Same H H' → SqT K H' p [.ref c, .int n] → SqT K H' c (ms.map V.int) → Q (.ref p) H'
theorem nice_seq {k : Nat} {ns : List Int} (h : ns.length ≤ 1000) : Nice (k + 1) (.list (dInts ns)) ∧ Nice (k + 1) (.tuple (dInts ns)) := by
  have h2 : (dInts ns).length ≤ 1000 := by unfold dInts; rw [List.length_map]; exact h
  exact ⟨.inr ⟨_, .inl rfl, h2, nice_ints ns⟩, .inr ⟨_, .inr rfl, h2, nice_ints ns⟩⟩
theorem ok_marks_told (T : Txt K mg) : FnOk P w K mg base CX0 4 T.marks_told.f T.marks_told.fd ["marks"] (spMk K) := by
  have G := ok_tup (P := P) (w := w) (base := base) T 2 (by decide)
  refine T.marks_told.F.ok sc_marks_told (fun vs H Q E h => ?_) (fun cdv A outer s H vs Q E hr h => ?_)
  · obtain ⟨a, ms, n, rfl, _⟩ := h; rfl
  · obtain ⟨a, ms, n, rfl, hS, hl, hn, k⟩ := h
    have h32 : 2 ^ n ≤ 2 ^ 5 := Nat.pow_le_pow_right (by decide) hn
    have hp0 : 0 < 2 ^ n := Nat.two_pow_pos n
    have hlen : (((ms.map V.int).length : Nat) : Int) + 1 = ((2 ^ n : Nat) : Int) := by rw [List.length_map]; omega
    refine ⟨_, (pss_cons (ps_set (i := 1) sc_marks_told.nd rfl (Or.inl rfl) (pe_call G (hr.mono (by decide)) rfl T.tupled.m T.tupled.F.kp T.tupled.b .nil pass0 (pa_cons (pv 0) pa_nil)))
      (pss_cons (ps_expr (pe_call (ok_sure_few T) (hr.mono (by decide)) rfl T.sure_few.m T.sure_few.F.kp T.sure_few.b .nil pass0 (pa_cons (pe_call (ok_wires_of T) (hr.mono (by decide)) rfl T.wires_of.m T.wires_of.F.kp T.wires_of.b .nil pass0 (pa_cons (pe_op op_add (pe_callB call_lenC (by rfl) T.z_len (by decide +kernel) (pa_cons (pv 1) pa_nil)) pe_int) pa_nil)) pa_nil)))
      (pss_one (ps_ret (pe_tup (pa_cons (pv 1) (pa_cons (pe_call (ok_wires_of T) (hr.mono (by decide)) rfl T.wires_of.m T.wires_of.F.kp T.wires_of.b .nil pass0 (pa_cons (pe_op op_add (pe_callB call_lenC (by rfl) T.z_len (by decide +kernel) (pa_cons (pv 1) pa_nil)) pe_int) pa_nil)) pa_nil))))))), ?_⟩
    have hd : ∃ d, Dp K H (.ref a) d ∧ Nice 2 d ∧ tupD d = .tuple (dInts ms) := by
      rcases hS with hS | hS
      · exact ⟨.list (dInts ms), .lst hS (dpInts ms), (nice_seq (by omega)).1, congrArg PyData.tuple (tupAll_ints ms)⟩
      · exact ⟨.tuple (dInts ms), dpTupI hS, (nice_seq (by omega)).2, congrArg PyData.tuple (tupAll_ints ms)⟩
    obtain ⟨d, hd1, hd2, hd3⟩ := hd
    refine ⟨_, rfl, _, d, rfl, hd1, hd2, fun v1 H1 s1 g1 => ?_⟩
    rw [hd3] at g1
    obtain ⟨c, rfl, hc⟩ := dpTupI_inv g1
    refine ⟨_, rfl, c, _, rfl, .inr hc, _, _, rfl, rfl, n, ?_, by omega, n, rfl, hn, ?_⟩
    · exact congrArg (fun z => [V.int z]) hlen
    refine ⟨_, rfl, _, rfl, c, _, rfl, .inr hc, _, _, rfl, rfl, n, ?_, by omega, by show 2 ≤ sizeLine; decide, fun p hp => ?_⟩
    · exact congrArg (fun z => [V.int z]) hlen
    exact k p c _ (s1.trans (Same.new hp)) (SqT.of upd_same) (Same.tup (Same.new hp) hc)
def spTo (K : PySem.W.Frag) : Sp := fun vs H Q _ => ∃ (a : Addr) (ms : List Int) (n : Nat), vs = [.ref a] ∧ (SqL K H a (ms.map V.int) ∨ SqT K H a (ms.map V.int)) ∧ ms.length = 2 ^ n - 1 ∧ n ≤ 5 ∧
  ∀ p H', Same H H' → SqT K H' p ((turnsM ms).map V.int) → Q (.ref p) H'
theorem ok_turns_of (T : Txt K mg) : FnOk P w K mg base CX0 5 T.turns_of.f T.turns_of.fd ["marks"] (spTo K) := by
  refine T.turns_of.F.ok sc_turns_of (fun vs H Q E h => ?_) (fun cdv A outer s H vs Q E hr h => ?_)
  · obtain ⟨a, ms, n, rfl, _⟩ := h; rfl
  · obtain ⟨a, ms, n, rfl, hS, hl, hn, k⟩ := h
    have h32 : 2 ^ n ≤ 2 ^ 5 := Nat.pow_le_pow_right (by decide) hn
    refine ⟨_, (pss_one (ps_ret (pe_call (ok_all_turns T) (hr.mono (by decide)) rfl T.all_turns.m T.all_turns.F.kp T.all_turns.b .nil pass0 (pa_cons (pe_ix (r := rIxT K) ix_tup (pe_call (ok_marks_told T) (hr.mono (by decide)) rfl T.marks_told.m T.marks_told.F.kp T.marks_told.b .nil pass0 (pa_cons (pv 0) pa_nil)) pe_int (fun _ _ => rfl)) pa_nil)))), ?_⟩
    refine ⟨_, rfl, a, ms, n, rfl, hS, hl, hn, fun p c H1 s1 hp hc => ?_⟩
    refine ⟨p, _, 0, .ref c, rfl, rfl, hp, rfl, c, ms, rfl, hc, by omega, fun H2 q s2 hq hq2 => ?_⟩
    exact k q H2 (s1.trans s2) (SqT.of hq2)
def spPm (K : PySem.W.Frag) : Sp := fun vs H Q _ => ∃ (a : Addr) (ms : List Int) (n : Nat), vs = [.ref a] ∧ (SqL K H a (ms.map V.int) ∨ SqT K H a (ms.map V.int)) ∧ ms.length = 2 ^ n - 1 ∧ n ≤ 5 ∧
  ∀ p H', Same H H' → SqT K H' p ((plainBy n (turnsM ms)).map V.int) → Q (.ref p) H'
theorem ok_plain_marks (T : Txt K mg) : FnOk P w K mg base CX0 5 T.plain_marks.f T.plain_marks.fd ["marks"] (spPm K) := by
  refine T.plain_marks.F.ok sc_plain_marks (fun vs H Q E h => ?_) (fun cdv A outer s H vs Q E hr h => ?_)
  · obtain ⟨a, ms, n, rfl, _⟩ := h; rfl
  · obtain ⟨a, ms, n, rfl, hS, hl, hn, k⟩ := h
    have h32 : 2 ^ n ≤ 2 ^ 5 := Nat.pow_le_pow_right (by decide) hn
    have hp0 : 0 < 2 ^ n := Nat.two_pow_pos n
    refine ⟨_, (pss_cons (ps_asg (pe_call (ok_marks_told T) (hr.mono (by decide)) rfl T.marks_told.m T.marks_told.F.kp T.marks_told.b .nil pass0 (pa_cons (pv 0) pa_nil)) (pg_tup rfl (pgs_cons (pg_name (i := 1) sc_plain_marks.nd rfl (Or.inl rfl)) (pgs_cons (pg_name (i := 2) sc_plain_marks.nd rfl (Or.inl rfl)) pgs_nil))))
      (pss_one (ps_ret (pe_call (ok_plain_by T) (hr.mono (by decide)) rfl T.plain_by.m T.plain_by.F.kp T.plain_by.b .nil pass0 (pa_cons (pe_call (ok_all_turns T) (hr.mono (by decide)) rfl T.all_turns.m T.all_turns.F.kp T.all_turns.b .nil pass0 (pa_cons (pv 1) pa_nil)) (pa_cons (pv 2) pa_nil)))))), ?_⟩
    refine ⟨_, rfl, a, ms, n, rfl, hS, hl, hn, fun p c H1 s1 hp hc => ?_⟩
    refine ⟨p, _, rfl, hp, rfl, _, _, rfl, _, _, rfl, rfl, ?_⟩
    refine ⟨_, rfl, c, ms, rfl, hc, by omega, fun H2 q s2 hq hq2 => ?_⟩
    refine ⟨_, rfl, q, turnsM ms, n, rfl, SqT.of hq2, hn, by unfold turnsM; rw [List.length_map, List.length_range]; omega, fun H3 r s3 hr hr2 => ?_⟩
    exact k r H3 ((s1.trans s2).trans s3) (SqT.of hr2)
end
end E8
set_option Elab.async false
set_option linter.all false
set_option maxRecDepth 100000
/-! D8: marked_alike, uneven_sum, is_uneven_sum. -/
namespace E8
open PySem PySem.Spec PyProof.Rows L2
theorem cut3 (a b c d : V) : cutV [a, b, c, d] none (some 3) = [a, b, c] := rfl
theorem eqv_front (t1 t2 f1 f2 : Int) (m1 m2 : List Int) : PyData.eqv (.tuple [.int t1, .tuple (dInts m1), .int f1]) (.tuple [.int t2, .tuple (dInts m2), .int f2]) = decide (t1 = t2 ∧ m1 = m2 ∧ f1 = f2) := by
  unfold dInts
  by_cases h1 : t1 = t2 <;> by_cases h2 : m1 = m2 <;> by_cases h3 : f1 = f2 <;> simp [PyData.eqv, PyData.eqvAll, PySem.W.ked_eqvAll, h1, h2, h3]
theorem eqv_ints (m1 m2 : List Int) : PyData.eqv (.tuple (dInts m1)) (.tuple (dInts m2)) = decide (m1 = m2) := by
  unfold dInts
  by_cases h2 : m1 = m2 <;> simp [PyData.eqv, PySem.W.ked_eqvAll, h2]
theorem shaped_front (t f : Int) (m : List Int) : SeqAt.shaped (.tuple [.int t, .tuple (dInts m), .int f]) = true := by
  unfold dInts
  simp [SeqAt.shaped, PyData.canLay0, PyData.canLayAll0, PyData.depth, PyData.depthAll, PySem.W.ke_canLayAll0, PySem.W.ke_depthAll]
theorem shaped_ints (m : List Int) : SeqAt.shaped (.tuple (dInts m)) = true := by
  unfold dInts
  simp [SeqAt.shaped, PyData.canLay0, PyData.canLayAll0, PyData.depth, PyData.depthAll, PySem.W.ke_canLayAll0, PySem.W.ke_depthAll]
def firstSum (n : Nat) (ms : List Int) : Option (List Nat) := (lots n 1 3).find? fun lot => decide (restM n ms lot ≠ 0)
theorem first_at {n : Nat} {ms : List Int} {i : Nat} {lot : List Nat} (h : (lots n 1 3)[i]? = some lot) (hb : ∀ (j : Nat) (l : List Nat), j < i → (lots n 1 3)[j]? = some l → restM n ms l = 0) (hr : restM n ms lot ≠ 0) : firstSum n ms = some lot := by
  unfold firstSum
  obtain ⟨hlt, e⟩ := List.getElem?_eq_some_iff.mp h
  rw [List.find?_eq_some_iff_getElem]
  refine ⟨by simpa using hr, i, hlt, e, fun j hj => ?_⟩
  have := hb j _ hj (List.getElem?_eq_getElem (by omega))
  simp [this]
theorem first_none {n : Nat} {ms : List Int} (hb : ∀ (j : Nat) (l : List Nat), (lots n 1 3)[j]? = some l → restM n ms l = 0) : firstSum n ms = none := by
  unfold firstSum
  rw [List.find?_eq_none]
  intro l hl
  obtain ⟨j, hj⟩ := List.mem_iff_getElem?.mp hl
  simp [hb j l hj]
section
variable {P : Program} {w : World} {K : PySem.W.Frag} {mg : Str → Option Value} {base : Heap}
def spMa (K : PySem.W.Frag) : Sp := fun vs H Q _ => ∃ (v1 v2 : V) (d1 d2 : PyData) (t1 t2 : Int) (maps1 maps2 : List Int) (f1 f2 : Int) (ms1 ms2 : List Int), vs = [v1, v2] ∧ Dp K H v1 d1 ∧ Nice 2 d1 ∧ tupD d1 = dMk t1 maps1 f1 ms1 ∧ Dp K H v2 d2 ∧ Nice 2 d2 ∧ tupD d2 = dMk t2 maps2 f2 ms2 ∧
  maps1.length ≤ 5 ∧ maps2.length = maps1.length ∧ ms1.length ≤ 1000 ∧ ms2.length ≤ 1000 ∧ ∀ H', Same H H' → Q (.bl (decide (t1 = t2 ∧ maps1 = maps2 ∧ f1 = f2) && decide (turnsM ms1 = turnsM ms2))) H'
theorem ok_marked_alike (T : Txt K mg) : FnOk P w K mg base CX0 6 T.marked_alike.f T.marked_alike.fd ["one", "other"] (spMa K) := by
  refine T.marked_alike.F.ok sc_marked_alike (fun vs H Q E h => ?_) (fun cdv A outer s H vs Q E hr h => ?_)
  · obtain ⟨v1, v2, d1, d2, t1, t2, maps1, maps2, f1, f2, ms1, ms2, rfl, _⟩ := h; rfl
  · obtain ⟨v1, v2, d1, d2, t1, t2, maps1, maps2, f1, f2, ms1, ms2, rfl, h1, n1, e1, h2, n2, e2, l1, l2, z1, z2, k⟩ := h
    have hu := hr.units
    refine ⟨_, (pss_cons (ps_asg (pe_call (ok_both_told T) (hr.mono (by decide)) rfl T.both_told.m T.both_told.F.kp T.both_told.b .nil pass0 (pa_cons (pv 0) (pa_cons (pv 1) pa_nil))) (pg_tup rfl (pgs_cons (pg_name (i := 2) sc_marked_alike.nd rfl (Or.inl rfl)) (pgs_cons (pg_name (i := 3) sc_marked_alike.nd rfl (Or.inl rfl)) pgs_nil))))
      (pss_one (ps_ret (pe_and (pe_cmpR (op_eqD hu) (pe_slice sl_tupA (pv 2) po_none (po_some pe_int)) (pe_slice sl_tupA (pv 3) po_none (po_some pe_int)) (nomark _)) (pe_one (pe_cmpR (op_eqD hu) (pe_call (ok_all_turns T) (hr.mono (by decide)) rfl T.all_turns.m T.all_turns.F.kp T.all_turns.b .nil pass0 (pa_cons (pe_ix (r := rIxT K) ix_tup (pv 2) pe_int (fun _ _ => rfl)) pa_nil)) (pe_call (ok_all_turns T) (hr.mono (by decide)) rfl T.all_turns.m T.all_turns.F.kp T.all_turns.b .nil pass0 (pa_cons (pe_ix (r := rIxT K) ix_tup (pv 3) pe_int (fun _ _ => rfl)) pa_nil)) (nomark _))))))), ?_⟩
    refine ⟨_, rfl, _, rfl, v1, v2, d1, d2, t1, t2, maps1, maps2, f1, f2, ms1, ms2, rfl, h1, n1, e1, h2, n2, e2, l1, l2, fun p w1 w2 H1 s1 hp g1 g2 => ?_⟩
    refine ⟨p, _, rfl, hp, rfl, _, _, rfl, _, _, rfl, rfl, ?_⟩
    obtain ⟨a1, b1, c1, rfl, ha1, hb1, hc1⟩ := dMk_inv g1
    obtain ⟨a2, b2, c2, rfl, ha2, hb2, hc2⟩ := dMk_inv g2
    refine ⟨_, rfl, _, rfl, a1, _, rfl, ha1, fun z => ?_, fun _ p1 hp1 => ?_⟩
    · exact absurd z.2 (show ¬ HT.sIx 4 4 (some 3) = 4 by decide)
    rw [cut3]
    refine ⟨_, rfl, _, rfl, a2, _, rfl, Same.tup (Same.new hp1) ha2, fun z => ?_, fun _ p2 hp2 => ?_⟩
    · exact absurd z.2 (show ¬ HT.sIx 4 4 (some 3) = 4 by decide)
    rw [cut3]
    have q1 : Same H1 (upd H1 p1 (.tup [.int t1, .ref b1, .int f1])) := Same.new hp1
    have q2 : Same (upd H1 p1 (.tup [.int t1, .ref b1, .int f1])) (upd (upd H1 p1 (.tup [.int t1, .ref b1, .int f1])) p2 (.tup [.int t2, .ref b2, .int f2])) := Same.new hp2
    refine ⟨.tuple [.int t1, .tuple (dInts maps1), .int f1], .tuple [.int t2, .tuple (dInts maps2), .int f2], ?_, ?_, shaped_front _ _ _, shaped_front _ _ _, ?_⟩
    · exact .tup (Same.tup q2 (SqT.of upd_same)) (.cons (.int t1) (.cons (dpTupI (Same.tup (q1.trans q2) hb1)) (.cons (.int f1) .nil)))
    · exact .tup (SqT.of upd_same) (.cons (.int t2) (.cons (dpTupI (Same.tup (q1.trans q2) hb2)) (.cons (.int f2) .nil)))
    rw [eqv_front]
    refine ⟨_, rfl, ?_⟩
    have ss := s1.trans (q1.trans q2)
    by_cases hf : t1 = t2 ∧ maps1 = maps2 ∧ f1 = f2
    · rw [decide_eq_true hf] at k ⊢
      refine ⟨_, rfl, a1, _, 3, .ref c1, rfl, rfl, Same.tup (q1.trans q2) ha1, rfl, c1, ms1, rfl, Same.tup (q1.trans q2) hc1, z1, fun H2 r1 s2 hr1 hr1' => ?_⟩
      refine ⟨_, rfl, a2, _, 3, .ref c2, rfl, rfl, Same.tup s2 (Same.tup (q1.trans q2) ha2), rfl, c2, ms2, rfl, Same.tup s2 (Same.tup (q1.trans q2) hc2), z2, fun H3 r2 s3 hr2 hr2' => ?_⟩
      refine ⟨_, _, dpTupI (SqT.of (s3 _ _ hr1')), dpTupI (SqT.of hr2'), shaped_ints _, shaped_ints _, ?_⟩
      rw [eqv_ints]
      exact k H3 ((ss.trans s2).trans s3)
    · rw [decide_eq_false hf] at k ⊢
      exact k _ ss
def spUs (K : PySem.W.Frag) (NP : Addr) : Sp := fun vs H Q E => ∃ (a : Addr) (ms : List Int) (n : Nat), vs = [.ref a] ∧ (SqL K H a (ms.map V.int) ∨ SqT K H a (ms.map V.int)) ∧ ms.length = 2 ^ n - 1 ∧ n ≤ 5 ∧
  (∀ lot, firstSum n ms = some lot → ∀ p c H', Same H H' → SqT K H' p [.ref c, .int (restM n ms lot)] → SqT K H' c (lotV lot) → Q (.ref p) H') ∧
  (firstSum n ms = none → ∀ H', Same H H' → E (.ref NP) none H')
theorem ok_uneven_sum (T : Txt K mg) : FnOk P w K mg base (L2.CX P w) 5 T.uneven_sum.f T.uneven_sum.fd ["marks"] (spUs K T.NP) := by
  refine T.uneven_sum.F.okX sc_uneven_sum (fun vs H Q E h => ?_) (fun cdv A outer s H vs Q E hr h => ?_)
  · obtain ⟨a, ms, n, rfl, _⟩ := h; rfl
  · obtain ⟨a, ms, n, rfl, hS, hl, hn, k1, k2⟩ := h
    have h32 : 2 ^ n ≤ 2 ^ 5 := Nat.pow_le_pow_right (by decide) hn
    refine ⟨_, (pss_cons (ps_asg (pe_call (ok_marks_told T) (hr.mono (by decide)) rfl T.marks_told.m T.marks_told.F.kp T.marks_told.b .nil pass0 (pa_cons (pv 0) pa_nil)) (pg_tup rfl (pgs_cons (pg_name (i := 1) sc_uneven_sum.nd rfl (Or.inl rfl)) (pgs_cons (pg_name (i := 2) sc_uneven_sum.nd rfl (Or.inl rfl)) pgs_nil))))
      (pss_cons (ps_for (passes_of rfl) rfl (pi_list (pe_call (ok_lots_of T) (hr.mono (by decide)) rfl T.lots_of.m T.lots_of.F.kp T.lots_of.b .nil pass0 (pa_cons (pv 2) (pa_cons pe_int (pa_cons pe_int pa_nil))))) (pg_name (i := 3) sc_uneven_sum.nd rfl (Or.inl rfl)) (pss_one (ps_if (pt_cmpR op_ne (pe_call (ok_rest_of_lot T) (hr.mono (by decide)) rfl T.rest_of_lot.m T.rest_of_lot.F.kp T.rest_of_lot.b .nil pass0 (pa_cons (pv 1) (pa_cons (pv 2) (pa_cons (pv 3) pa_nil)))) pe_int (nomark _)) (pss_one (ps_ret (pe_tup (pa_cons (pv 3) (pa_cons (pe_call (ok_rest_of_lot T) (hr.mono (by decide)) rfl T.rest_of_lot.m T.rest_of_lot.F.kp T.rest_of_lot.b .nil pass0 (pa_cons (pv 1) (pa_cons (pv 2) (pa_cons (pv 3) pa_nil)))) pa_nil))))) pss_nil)))
      (pss_one (ps_raise rfl (takes_of rfl rfl rfl rfl) (pmk_none PySem.F.excBase_ValueError T.xNP T.gNP T.kNP (raises_own T.bNP T.tNP) rfl))))), ?_⟩
    refine ⟨_, rfl, a, ms, n, rfl, hS, hl, hn, fun p c H1 s1 hp hc => ?_⟩
    refine ⟨p, _, rfl, hp, rfl, _, _, rfl, _, _, rfl, rfl, ?_⟩
    refine ⟨_, rfl, n, 1, 3, rfl, hn, by omega, by omega, fun H2 q refs s2 hq hq1 hD => ?_⟩
    have hrl := DpAll.len hD
    rw [List.length_map] at hrl
    refine ⟨q, rfl, ⟨_, SqL.of hq1⟩, for_list (K := K) (a := q) (xs := refs) (fun i σ H' => ∃ v3 : Option V, σ = [some (.ref a), some (.ref c), some (.int n), v3] ∧ Same H2 H' ∧ ∀ (j : Nat) (l : List Nat), j < i → (lots n 1 3)[j]? = some l → restM n ms l = 0)
      ⟨none, rfl, Same.refl _, fun j l hj => by omega⟩ (fun i σ H' _ ⟨_, _, e, _⟩ => SqL.of (e _ _ hq1)) ?_ ?_⟩
    · rintro i x σ H3 hx ⟨v3, rfl, s3, hz⟩
      obtain ⟨d, hd1, hd2⟩ := DpAll.get hD hx
      rw [List.getElem?_map] at hd1
      cases hj : (lots n 1 3)[i]? with
      | none => rw [hj] at hd1; cases hd1
      | some lot =>
        rw [hj] at hd1
        cases Option.some.inj hd1
        obtain ⟨b, rfl, hL⟩ := dpLot_inv hd2
        have hm : lot ∈ lots n 1 3 := List.mem_of_getElem? hj
        have hlen := lots13_len n hn lot hm
        have hlt := lots_lt n hn lot hm
        have hL3 := Same.tup s3 hL
        have hc3 := Same.tup (s2.trans s3) hc
        refine ⟨_, rfl, _, rfl, _, rfl, c, b, ms, n, lot, rfl, hc3, hL3, hlt, by omega, by omega, by omega, by omega, fun H4 s4 => ?_⟩
        refine ⟨rfl, _, rfl, ?_⟩
        by_cases hr0 : restM n ms lot = 0
        · rw [decide_eq_true (by rw [hr0])]
          refine ⟨some (.ref b), rfl, s3.trans s4, fun j l hj2 hjl => ?_⟩
          by_cases e : j = i
          · subst e
            rw [hj] at hjl
            cases Option.some.inj hjl
            exact hr0
          · exact hz j l (by omega) hjl
        · rw [decide_eq_false (fun z => hr0 (V.int.inj z))]
          refine ⟨_, rfl, _, rfl, _, rfl, _, rfl, c, b, ms, n, lot, rfl, Same.tup s4 hc3, Same.tup s4 hL3, hlt, by omega, by omega, by omega, by omega, fun H5 s5 => ?_⟩
          refine ⟨by show 2 ≤ sizeLine; decide, fun r hr => ?_⟩
          refine k1 lot (first_at hj hz hr0) r b _ ?_ (SqT.of upd_same) (Same.tup (Same.new hr) (Same.tup s5 (Same.tup s4 hL3)))
          exact ((((s1.trans s2).trans s3).trans s4).trans s5).trans (Same.new hr)
    · rintro σ H3 ⟨v3, rfl, s3, hz⟩
      refine k2 (first_none fun j l hjl => ?_) H3 ((s1.trans s2).trans s3)
      refine hz j l ?_ hjl
      rw [hrl]
      exact (List.getElem?_eq_some_iff.mp hjl).1
def spIu (K : PySem.W.Frag) : Sp := fun vs H Q _ => ∃ (a : Addr) (v : V) (ms : List Int) (n : Nat), vs = [.ref a, v] ∧ (SqL K H a (ms.map V.int) ∨ SqT K H a (ms.map V.int)) ∧ ms.length = 2 ^ n - 1 ∧ n ≤ 5 ∧
  ((v = .non ∧ ∀ H', Same H H' → Q (.bl false) H') ∨ ∃ p c lot r, v = .ref p ∧ SqT K H p [.ref c, .int r] ∧ SqT K H c (lotV lot) ∧ 1 ≤ lot.length ∧ lot.length ≤ 100 ∧ Asc lot ∧ (∀ q ∈ lot, q < n) ∧
    ∀ H', Same H H' → Q (.bl (decide (lot.length ≤ 3 ∧ (0 ≤ r ∧ r < 8) ∧ r ≠ 0 ∧ restM n ms lot = r))) H')
theorem ok_is_uneven_sum (T : Txt K mg) : FnOk P w K mg base CX0 5 T.is_uneven_sum.f T.is_uneven_sum.fd ["marks", "thing"] (spIu K) := by
  refine T.is_uneven_sum.F.ok sc_is_uneven_sum (fun vs H Q E h => ?_) (fun cdv A outer s H vs Q E hr h => ?_)
  · obtain ⟨a, v, ms, n, rfl, _⟩ := h; rfl
  · obtain ⟨a, v, ms, n, rfl, hS, hl, hn, hv⟩ := h
    have h32 : 2 ^ n ≤ 2 ^ 5 := Nat.pow_le_pow_right (by decide) hn
    refine ⟨_, (pss_cons (ps_asg (pe_call (ok_marks_told T) (hr.mono (by decide)) rfl T.marks_told.m T.marks_told.F.kp T.marks_told.b .nil pass0 (pa_cons (pv 0) pa_nil)) (pg_tup rfl (pgs_cons (pg_name (i := 2) sc_is_uneven_sum.nd rfl (Or.inl rfl)) (pgs_cons (pg_name (i := 3) sc_is_uneven_sum.nd rfl (Or.inl rfl)) pgs_nil))))
      (pss_cons (ps_if (PW.pt (pw_or (pt_not (pt_val (pe_call (ok_is_tuple_of T) (hr.mono (by decide)) rfl T.is_tuple_of.m T.is_tuple_of.F.kp T.is_tuple_of.b .nil pass0 (pa_cons (pv 1) (pa_cons pe_int pa_nil))))) (pw_or (pt_not (pt_val (pe_call (ok_is_number_set T) (hr.mono (by decide)) rfl T.is_number_set.m T.is_number_set.F.kp T.is_number_set.b .nil pass0 (pa_cons (pe_ix (r := rIxT K) ix_tup (pv 1) pe_int (fun _ _ => rfl)) (pa_cons (pv 3) pa_nil))))) (pw_or1 (pt_not (pt_chain op_le op_le pe_int (pe_callB call_lenC (by rfl) T.z_len (by decide +kernel) (pa_cons (pe_ix (r := rIxT K) ix_tup (pv 1) pe_int (fun _ _ => rfl)) pa_nil)) pe_int)))))) (pss_one (ps_ret pe_bl)) pss_nil)
      (pss_one (ps_ret (pe_and (pe_call (ok_is_below T) (hr.mono (by decide)) rfl T.is_below.m T.is_below.F.kp T.is_below.b .nil pass0 (pa_cons (pe_ix (r := rIxT K) ix_tup (pv 1) pe_int (fun _ _ => rfl)) (pa_cons (pe_glob (v := .int 8) rfl T.gFULL ⟨_, rfl⟩) pa_nil))) (pe_and (pe_cmpR op_ne (pe_ix (r := rIxT K) ix_tup (pv 1) pe_int (fun _ _ => rfl)) pe_int (nomark _)) (pe_one (pe_cmpR op_eq (pe_call (ok_rest_of_lot T) (hr.mono (by decide)) rfl T.rest_of_lot.m T.rest_of_lot.F.kp T.rest_of_lot.b .nil pass0 (pa_cons (pv 2) (pa_cons (pv 3) (pa_cons (pe_ix (r := rIxT K) ix_tup (pv 1) pe_int (fun _ _ => rfl)) pa_nil)))) (pe_ix (r := rIxT K) ix_tup (pv 1) pe_int (fun _ _ => rfl)) (nomark _))))))))), ?_⟩
    refine ⟨_, rfl, a, ms, n, rfl, hS, hl, hn, fun p0 c0 H1 s1 hp hc => ?_⟩
    refine ⟨p0, _, rfl, hp, rfl, _, _, rfl, _, _, rfl, rfl, ?_⟩
    rcases hv with ⟨rfl, k⟩ | ⟨p, c, lot, r, rfl, hP, hC, h1, h100, ha, hq, k⟩
    · refine ⟨_, rfl, .non, 2, rfl, .inl ⟨rfl, ?_⟩⟩
      exact ⟨_, rfl, k H1 s1⟩
    · have hP1 := Same.tup s1 hP
      have hC1 := Same.tup s1 hC
      refine ⟨_, rfl, .ref p, 2, rfl, .inr ⟨p, _, rfl, hP1, ?_⟩⟩
      refine ⟨_, rfl, _, rfl, p, _, 0, .ref c, rfl, rfl, hP1, rfl, _, rfl, c, lot, n, rfl, hC1, h1, h100, ha, hq, fun H2 s2 => ?_⟩
      have hP2 := Same.tup s2 hP1
      have hC2 := Same.tup s2 hC1
      have hc2 := Same.tup s2 hc
      refine ⟨_, rfl, _, rfl, p, _, 0, .ref c, rfl, rfl, hP2, rfl, c, _, rfl, .inr hC2, _, _, rfl, rfl, _, rfl, ?_⟩
      rw [decide_eq_true (show (1 : Int) ≤ ((lotV lot).length : Nat) by rw [lotV_len]; omega)]
      refine ⟨_, _, rfl, rfl, _, rfl, ?_⟩
      have ss := s1.trans s2
      by_cases h3 : lot.length ≤ 3
      · rw [decide_eq_true (show ((lotV lot).length : Nat) ≤ (3 : Int) by rw [lotV_len]; omega)]
        refine ⟨_, rfl, p, _, 1, .int r, rfl, rfl, hP2, rfl, r, 8, rfl, _, rfl, ?_⟩
        by_cases hr : 0 ≤ r ∧ r < 8
        · rw [decide_eq_true hr]
          refine ⟨_, rfl, p, _, 1, .int r, rfl, rfl, hP2, rfl, rfl, _, rfl, ?_⟩
          by_cases h0 : r = 0
          · rw [decide_eq_true (by rw [h0])]
            have e : decide (lot.length ≤ 3 ∧ (0 ≤ r ∧ r < 8) ∧ r ≠ 0 ∧ restM n ms lot = r) = false := by simp [h0]
            rw [e] at k
            exact k H2 ss
          · rw [decide_eq_false (fun z => h0 (V.int.inj z))]
            refine ⟨_, rfl, _, rfl, _, rfl, p, _, 0, .ref c, rfl, rfl, hP2, rfl, c0, c, ms, n, lot, rfl, hc2, hC2, hq, by omega, by omega, h1, h3, fun H3 s3 => ?_⟩
            refine ⟨_, rfl, p, _, 1, .int r, rfl, rfl, Same.tup s3 hP2, rfl, rfl, ?_⟩
            have e : decide (lot.length ≤ 3 ∧ (0 ≤ r ∧ r < 8) ∧ r ≠ 0 ∧ restM n ms lot = r) = decide (V.int (restM n ms lot) = V.int r) := by
              rw [Bool.eq_iff_iff, decide_eq_true_iff, decide_eq_true_iff]
              exact ⟨fun z => congrArg V.int z.2.2.2, fun z => ⟨h3, hr, h0, V.int.inj z⟩⟩
            rw [← e]
            exact k H3 (ss.trans s3)
        · rw [decide_eq_false hr]
          have e : decide (lot.length ≤ 3 ∧ (0 ≤ r ∧ r < 8) ∧ r ≠ 0 ∧ restM n ms lot = r) = false := by
            rw [decide_eq_false_iff_not]
            exact fun z => hr z.2.1
          rw [e] at k
          exact k H2 ss
      · rw [decide_eq_false (show ¬ ((lotV lot).length : Nat) ≤ (3 : Int) by rw [lotV_len]; omega)]
        have e : decide (lot.length ≤ 3 ∧ (0 ≤ r ∧ r < 8) ∧ r ≠ 0 ∧ restM n ms lot = r) = false := by
          rw [decide_eq_false_iff_not]
          exact fun z => h3 z.1
        rw [e] at k
        exact k H2 ss
end
end E8
set_option Elab.async false
set_option linter.all false
set_option maxRecDepth 100000
/-! D9: the law's own purse. -/
namespace E8
open PySem PySem.Spec PyProof.Rows L2
theorem cutTo1 (x : V) (xs : List V) : cutV (x :: xs) none (some 1) = [x] := by
  unfold cutV
  rw [show (some (1 : Int)) = some ((1 : Nat) : Int) from rfl, HT.sIx_nat, HT.sIx_none, List.drop_zero, List.length_cons, show min 1 (xs.length + 1) - 0 = 1 by omega]
  rfl
theorem cut_ints (ns : List Int) (lo hi : Option Int) : ∃ ms : List Int, cutV (ns.map V.int) lo hi = ms.map V.int ∧ ms.length ≤ ns.length := by
  refine ⟨(ns.drop (HT.sIx (ns.map V.int).length 0 lo)).take (HT.sIx (ns.map V.int).length (ns.map V.int).length hi - HT.sIx (ns.map V.int).length 0 lo), ?_, ?_⟩
  · unfold cutV
    rw [List.map_take, List.map_drop]
  · rw [List.length_take, List.length_drop]
    omega
/-- the purse, used at most c times -/
def Tin (H : Hp) (t : Addr) (c : Int) : Prop := ∃ t0 t1 t2 : Int, H t = some (.lst [.int t0, .int t1, .int t2]) ∧ 0 ≤ t1 ∧ t1 < 2 ^ 62 ∧ 0 ≤ t2 ∧ t2 ≤ c
theorem Tin.mono {H : Hp} {t : Addr} {c d : Int} (h : Tin H t c) (l : c ≤ d) : Tin H t d := by
  obtain ⟨t0, t1, t2, h0, h1, h2, h3, h4⟩ := h
  exact ⟨t0, t1, t2, h0, h1, h2, h3, by omega⟩
theorem Tin.same {H H' : Hp} {t : Addr} {c : Int} (e : Same H H') (h : Tin H t c) : Tin H' t c := by
  obtain ⟨t0, t1, t2, h0, h1, h2, h3, h4⟩ := h
  exact ⟨t0, t1, t2, e _ _ h0, h1, h2, h3, h4⟩
theorem Tin.at {H : Hp} {t : Addr} {c : Int} (h : Tin H t c) : ∃ xs, H t = some (.lst xs) := by
  obtain ⟨t0, t1, t2, h0, _⟩ := h
  exact ⟨_, h0⟩
theorem map_erase {α β : Type} (f : α → β) : ∀ (l : List α) (i : Nat), (l.map f).eraseIdx i = (l.eraseIdx i).map f
  | [], _ => rfl
  | _ :: _, 0 => rfl
  | x :: l, i + 1 => by
    rw [List.map_cons, List.eraseIdx_cons_succ, List.eraseIdx_cons_succ, List.map_cons, map_erase f l i]
theorem perm_erase {α : Type} : ∀ (l : List α) (i : Nat) (h : i < l.length), (l[i] :: l.eraseIdx i).Perm l
  | [], _, h => by cases h
  | _ :: _, 0, _ => List.Perm.refl _
  | x :: l, i + 1, h => by
    have ih := perm_erase l i (Nat.lt_of_succ_lt_succ h)
    exact (List.Perm.swap _ _ _).trans (List.Perm.cons x ih)
section
variable {P : Program} {w : World} {K : PySem.W.Frag} {mg : Str → Option Value} {base : Heap}
def spBox (K : PySem.W.Frag) : Sp := fun vs H Q _ => ∃ (a : Addr) (c : Int), vs = [.ref a, .int 0] ∧ SqL K H a [.int c] ∧ ∀ p H', Same H H' → H p = none → Tin H' p 0 → Q (.ref p) H'
theorem ok_law_box (T : Txt K mg) : FnOk P w K mg base CX0 1 T.law_box.f T.law_box.fd ["_law_script", "_law_k"] (spBox K) := by
  refine T.law_box.F.ok sc_law_box (fun vs H Q E h => ?_) (fun cdv A outer s H vs Q E hr h => ?_)
  · obtain ⟨a, c, rfl, _⟩ := h; rfl
  · obtain ⟨a, c, rfl, hS, k⟩ := h
    refine ⟨_, (pss_cons (ps_set (i := 2) sc_law_box.nd rfl (Or.inl rfl) (pe_ifExp (pt_cmpR op_lt (pv 1) (pe_callB call_lenC (by rfl) T.z_len (by decide +kernel) (pa_cons (pv 0) pa_nil)) (nomark _)) (pe_ix (r := rIxL K) ix_list (pv 0) (pv 1) (fun _ _ => rfl)) pe_int))
      (pss_one (ps_ret (pe_lst (pa_cons (pe_op op_mul (pe_callB call_abs (by rfl) T.z_abs (by decide +kernel) (pa_cons (pv 2) pa_nil)) (pe_callTy call_int1 (by rfl) T.z_int (by decide +kernel) (pa_cons (pe_cmpR op_ge (pe_callB call_abs (by rfl) T.z_abs (by decide +kernel) (pa_cons (pv 2) pa_nil)) (pe_op op_pow pe_int pe_int) (nomark _)) pa_nil))) (pa_cons (pe_op op_add (pe_op op_add (pe_op op_mod (pe_callTy call_int1 (by rfl) T.z_int (by decide +kernel) (pa_cons (pv 2) pa_nil)) pe_int) (pe_op op_mul pe_int (pv 1))) pe_int) (pa_cons pe_int pa_nil))))))), ?_⟩
    refine ⟨_, rfl, _, rfl, a, _, rfl, .inl hS, _, _, rfl, rfl, _, rfl, _, rfl, _, rfl, a, _, 0, .int c, rfl, rfl, hS, rfl, ?_⟩
    have b1 := Int.emod_nonneg c (show (2305843009213693951 : Int) ≠ 0 by decide)
    have b2 := Int.emod_lt_of_pos c (show (0 : Int) < 2305843009213693951 by decide)
    refine ⟨_, rfl, _, rfl, _, rfl, _, rfl, _, _, rfl, rfl, ⟨by decide, by decide, by decide⟩, _, _, rfl, rfl, .inr ⟨_, rfl, _, _, rfl, rfl, .inr ?_, ?_⟩⟩
    · have : ∀ bb : Bool, (-(2 ^ 64) < (if bb = true then (1 : Int) else 0)) ∧ ((if bb = true then (1 : Int) else 0) < 2 ^ 64) := by decide
      exact this _
    refine ⟨_, rfl, .inl ⟨_, rfl, _, _, rfl, rfl, (by show (0 : Int) < 2305843009213693951; decide), _, rfl, _, _, rfl, rfl, .inl (by decide), _, _, rfl, rfl, _, _, rfl, rfl, ?_⟩⟩
    refine ⟨by show 3 ≤ sizeLine; decide, fun p hp => k p _ (Same.new hp) hp ⟨_, _, _, upd_same, ?_, ?_, by decide, by decide⟩⟩
    · omega
    · omega
def spTake (K : PySem.W.Frag) : Sp := fun vs H Q _ => ∃ (t : Addr) (n c : Int), vs = [.ref t, .int n] ∧ Tin H t c ∧ c ≤ 10000 ∧ 1 ≤ n ∧ n ≤ 1000 ∧ ∀ r H', 0 ≤ r → r < n → Keep t H H' → Tin H' t (c + 1) → Q (.int r) H'
theorem ok_law_take (T : Txt K mg) : FnOk P w K mg base CX0 1 T.law_take.f T.law_take.fd ["_law_tin", "_law_below_so"] (spTake K) := by
  refine T.law_take.F.ok sc_law_take (fun vs H Q E h => ?_) (fun cdv A outer s H vs Q E hr h => ?_)
  · obtain ⟨t, n, c, rfl, _⟩ := h; rfl
  · obtain ⟨t, n, c, rfl, ⟨t0, t1, t2, h0, h1, h2, h3, h4⟩, hc, n1, n2, k⟩ := h
    refine ⟨_, (pss_cons (ps_if (pt_cmpR op_gt (pe_ix (r := rIxL K) ix_list (pv 0) pe_int (fun _ _ => rfl)) pe_int (nomark _)) (pss_cons (ps_set (i := 5) sc_law_take.nd rfl (Or.inl rfl) (pe_op op_mod (pe_callTy call_int1 (by rfl) T.z_int (by decide +kernel) (pa_cons (pe_ix (r := rIxL K) ix_list (pv 0) pe_int (fun _ _ => rfl)) pa_nil)) (pv 1)))
      (pss_cons (ps_asg (pe_op op_fdiv (pe_ix (r := rIxL K) ix_list (pv 0) pe_int (fun _ _ => rfl)) (pv 1)) (pg_sub (pv 0) pe_int set_list))
      (pss_one (ps_ret (pv 5))))) pss_nil)
      (pss_cons (ps_asg (pe_op op_add (pe_ix (r := rIxL K) ix_list (pv 0) pe_int (fun _ _ => rfl)) pe_int) (pg_sub (pv 0) pe_int set_list))
      (pss_cons (ps_set (i := 2) sc_law_take.nd rfl (Or.inl rfl) (pe_op op_mod (pe_callTy call_int1 (by rfl) T.z_int (by decide +kernel) (pa_cons (pe_op op_mul (pe_op op_add (pe_ix (r := rIxL K) ix_list (pv 0) pe_int (fun _ _ => rfl)) (pe_op op_mul pe_int (pe_ix (r := rIxL K) ix_list (pv 0) pe_int (fun _ _ => rfl)))) (pe_op op_add pe_int (pe_ix (r := rIxL K) ix_list (pv 0) pe_int (fun _ _ => rfl)))) pa_nil)) pe_int))
      (pss_cons (ps_set (i := 3) sc_law_take.nd rfl (Or.inl rfl) (pe_op op_add (pe_op op_mod (pe_callTy call_int1 (by rfl) T.z_int (by decide +kernel) (pa_cons (pv 2) pa_nil)) pe_int) pe_int))
      (pss_cons (ps_set (i := 4) sc_law_take.nd rfl (Or.inl rfl) (pe_op op_mod (pe_callTy call_int1 (by rfl) T.z_int (by decide +kernel) (pa_cons (pe_op op_mul (pe_op op_add (pe_op op_add (pv 2) (pe_ix (r := rIxL K) ix_list (pv 0) pe_int (fun _ _ => rfl))) (pe_op op_fdiv (pe_ix (r := rIxL K) ix_list (pv 0) pe_int (fun _ _ => rfl)) pe_int)) (pv 3)) pa_nil)) pe_int))
      (pss_one (ps_ret (pe_op op_mod (pe_callTy call_int1 (by rfl) T.z_int (by decide +kernel) (pa_cons (pe_op op_fdiv (pe_op op_mod (pe_callTy call_int1 (by rfl) T.z_int (by decide +kernel) (pa_cons (pe_op op_add (pe_op op_mul (pv 4) pe_int) (pv 2)) pa_nil)) pe_int) pe_int) pa_nil)) (pv 1))))))))), ?_⟩
    refine ⟨_, rfl, t, _, 0, .int t0, rfl, rfl, SqL.of h0, rfl, _, _, rfl, rfl, _, rfl, ?_⟩
    by_cases hp : 0 < t0
    · rw [decide_eq_true hp]
      refine ⟨_, rfl, t, _, 0, .int t0, rfl, rfl, SqL.of h0, rfl, .inl ⟨_, rfl, _, rfl, _, _, rfl, rfl, by show (0 : Int) < n; omega, ?_⟩⟩
      refine ⟨_, rfl, t, _, 0, .int t0, rfl, rfl, SqL.of h0, rfl, _, rfl, _, _, rfl, rfl, ⟨by show (0 : Int) < n; omega, by omega⟩, _, rfl, t, _, 0, 0, rfl, rfl, h0, rfl, ?_⟩
      refine ⟨_, rfl, k _ _ (Int.emod_nonneg _ (by omega)) (Int.emod_lt_of_pos _ (by omega)) Keep.upd ⟨t0 / n, t1, t2, upd_same, h1, h2, h3, by omega⟩⟩
    · rw [decide_eq_false hp]
      refine ⟨_, rfl, t, _, 2, .int t2, rfl, rfl, SqL.of h0, rfl, _, _, rfl, rfl, _, rfl, t, _, 2, 2, rfl, rfl, h0, rfl, ?_⟩
      have g : upd H t (.lst ([.int t0, .int t1, .int t2].set 2 (.int (t2 + 1)))) t = some (.lst [.int t0, .int t1, .int (t2 + 1)]) := upd_same
      have gK : Keep t H (upd H t (.lst ([.int t0, .int t1, .int t2].set 2 (.int (t2 + 1))))) := Keep.upd
      generalize upd H t (.lst ([.int t0, .int t1, .int t2].set 2 (.int (t2 + 1)))) = H1 at g gK
      have gT : Tin H1 t (c + 1) := ⟨t0, t1, t2 + 1, g, h1, h2, by omega, by omega⟩
      have gS : SqL K H1 t [.int t0, .int t1, .int (t2 + 1)] := SqL.of g
      refine ⟨_, rfl, t, _, 1, .int t1, rfl, rfl, gS, rfl, _, rfl, t, _, 2, .int (t2 + 1), rfl, rfl, gS, rfl, _, _, rfl, rfl, .inl (by decide), _, _, rfl, rfl, ?_⟩
      refine ⟨_, rfl, t, _, 2, .int (t2 + 1), rfl, rfl, gS, rfl, _, _, rfl, rfl, _, _, rfl, rfl, .inr ⟨by omega, by omega⟩, .inl ⟨_, rfl, _, _, rfl, rfl, (by show (0 : Int) < 2147483647; decide), ?_⟩⟩
      generalize (t1 + 48271 * (t2 + 1)) * (39373 + (t2 + 1)) % 2147483647 = once
      refine ⟨_, rfl, .inl ⟨_, rfl, _, _, rfl, rfl, (by show (0 : Int) < 40009; decide), _, _, rfl, rfl, ?_⟩⟩
      have w1 := Int.emod_nonneg once (show (40009 : Int) ≠ 0 by decide)
      have w2 := Int.emod_lt_of_pos once (show (0 : Int) < 40009 by decide)
      generalize once % 40009 = wide at w1 w2
      refine ⟨_, rfl, _, rfl, t, _, 2, .int (t2 + 1), rfl, rfl, gS, rfl, _, _, rfl, rfl, _, rfl, t, _, 1, .int t1, rfl, rfl, gS, rfl, _, _, rfl, rfl, ⟨(by show (0 : Int) < 1000003; decide), (by show (1000003 : Int) < _; decide)⟩, _, _, rfl, rfl, _, rfl, _, _, rfl, rfl, .inr ⟨by omega, by omega⟩, .inl ⟨_, rfl, _, _, rfl, rfl, (by show (0 : Int) < 2147483629; decide), ?_⟩⟩
      generalize (once + (t2 + 1) + t1 / 1000003) * (wide + 7) % 2147483629 = twice
      refine ⟨_, rfl, _, _, rfl, rfl, .inr (by decide), _, rfl, _, _, rfl, rfl, .inl ⟨_, rfl, _, _, rfl, rfl, (by show (0 : Int) < 2147483587; decide), _, _, rfl, rfl, ⟨(by show (0 : Int) < 64; decide), (by show (64 : Int) < _; decide)⟩, .inl ⟨_, rfl, _, rfl, _, _, rfl, rfl, (by show (0 : Int) < n; omega), ?_⟩⟩⟩
      exact k _ _ (Int.emod_nonneg _ (by omega)) (Int.emod_lt_of_pos _ (by omega)) gK gT
def spOf (K : PySem.W.Frag) : Sp := fun vs H Q _ => ∃ (t a : Addr) (xs : List V) (c : Int), vs = [.ref t, .ref a] ∧ Tin H t c ∧ c ≤ 10000 ∧ SqL K H a xs ∧ a ≠ t ∧ 1 ≤ xs.length ∧ xs.length ≤ 1000 ∧ ∀ (j : Nat) v H', xs[j]? = some v → Keep t H H' → Tin H' t (c + 1) → Q v H'
theorem ok_law_of (T : Txt K mg) : FnOk P w K mg base CX0 2 T.law_of.f T.law_of.fd ["_law_tin", "_law_goods_so"] (spOf K) := by
  refine T.law_of.F.ok sc_law_of (fun vs H Q E h => ?_) (fun cdv A outer s H vs Q E hr h => ?_)
  · obtain ⟨t, a, xs, c, rfl, _⟩ := h; rfl
  · obtain ⟨t, a, xs, c, rfl, hT, hc, hS, ne, l1, l2, k⟩ := h
    refine ⟨_, (pss_one (ps_ret (pe_ix (r := rIxL K) ix_list (pv 1) (pe_call (ok_law_take T) (hr.mono (by decide)) rfl T.law_take.m T.law_take.F.kp T.law_take.b .nil pass0 (pa_cons (pv 0) (pa_cons (pe_callB call_lenC (by rfl) T.z_len (by decide +kernel) (pa_cons (pv 1) pa_nil)) pa_nil))) (fun _ _ => rfl)))), ?_⟩
    refine ⟨_, rfl, _, rfl, _, rfl, a, _, rfl, .inl hS, t, _, c, rfl, hT, hc, by omega, by omega, fun r H1 r0 r1 kp hT1 => ?_⟩
    obtain ⟨j, rfl⟩ := Int.eq_ofNat_of_zero_le r0
    have hj : j < xs.length := by omega
    refine ⟨a, xs, j, xs[j], rfl, rfl, Keep.seq kp ne hS, atI_nat (List.getElem?_eq_getElem hj), k j _ _ (List.getElem?_eq_getElem hj) kp hT1⟩
def spPk (K : PySem.W.Frag) : Sp := fun vs H Q _ => ∃ (t g : Addr) (ns : List Int) (m : Nat) (c : Int), vs = [.ref t, .ref g, .int m] ∧ Tin H t c ∧ c ≤ 9000 ∧ SqL K H g (ns.map V.int) ∧ g ≠ t ∧ ns.length ≤ 100 ∧ m ≤ ns.length ∧
  ∀ (p : Addr) (as rest : List Int) (H' : Hp), Keep t H H' → Tin H' t (c + m) → H p = none → H' p = some (.lst (as.map V.int)) → as.length = m → (as ++ rest).Perm ns → Q (.ref p) H'
theorem ok_law_pick (T : Txt K mg) : FnOk P w K mg base CX0 2 T.law_pick.f T.law_pick.fd ["_law_tin", "_law_goods_so", "_law_count_so"] (spPk K) := by
  refine T.law_pick.F.ok sc_law_pick (fun vs H Q E h => ?_) (fun cdv A outer s H vs Q E hr h => ?_)
  · obtain ⟨t, g, ns, m, c, rfl, _⟩ := h; rfl
  · obtain ⟨t, g, ns, m, c, rfl, hT, hc, hS, ne, l1, l2, k⟩ := h
    refine ⟨_, (pss_cons (ps_par (i := 3) (j := 4) rfl sc_law_pick.nd rfl rfl (by decide) rfl rfl (pa_cons (pe_callTy call_list_of (by rfl) T.z_list (by decide +kernel) (pa_cons (pv 1) pa_nil)) (pa_cons (pe_lst pa_nil) pa_nil)) (by rfl))
      (pss_cons (ps_for PassesOwn.never rfl (pi_range1 rfl T.z_range (pa_cons (pe_callB (call_min2 rfl) (by rfl) T.z_min (by decide +kernel) (pa_cons (pe_callTy call_int1 (by rfl) T.z_int (by decide +kernel) (pa_cons (pv 2) pa_nil)) (pa_cons (pe_callB call_lenC (by rfl) T.z_len (by decide +kernel) (pa_cons (pv 3) pa_nil)) pa_nil))) pa_nil)) (pg_name (i := 5) sc_law_pick.nd rfl (Or.inl rfl)) (pss_one (ps_expr (pe_bm PySem.F.plainAttrs_list PySem.F.slot_list_append PySem.F.type_list_append mt_append (pv 4) (pa_cons (pe_bm PySem.F.plainAttrs_list PySem.F.slot_list_pop PySem.F.type_list_pop mt_popAt (pv 3) (pa_cons (pe_call (ok_law_take T) (hr.mono (by decide)) rfl T.law_take.m T.law_take.F.kp T.law_take.b .nil pass0 (pa_cons (pv 0) (pa_cons (pe_callB call_lenC (by rfl) T.z_len (by decide +kernel) (pa_cons (pv 3) pa_nil)) pa_nil))) pa_nil)) pa_nil)))))
      (pss_one (ps_ret (pv 4))))), ?_⟩
    refine ⟨_, rfl, g, _, rfl, .inl hS, fun p hp => ⟨by show 0 ≤ sizeLine; omega, fun f hf => ?_⟩⟩
    refine ⟨.ref p, .ref f, rfl, ?_⟩
    have hpH : H p = none := hp
    have hfH : H f = none := Same.free (Same.new hp) hf
    have hp1 : upd H p (.lst (ns.map V.int)) p = some (.lst (ns.map V.int)) := upd_same
    have npf : p ≠ f := ne_of_none hp1 hf
    obtain ⟨tx, htx⟩ := hT.at
    have npt : t ≠ p := ne_of_none htx hp
    have nft : t ≠ f := ne_of_none htx hfH
    have s0 : Same H (upd (upd H p (.lst (ns.map V.int))) f (.lst [])) := (Same.new hp).trans (Same.new hf)
    have hp2 : upd (upd H p (.lst (ns.map V.int))) f (.lst []) p = some (.lst (ns.map V.int)) := Same.new hf _ _ hp1
    have hf2 : upd (upd H p (.lst (ns.map V.int))) f (.lst []) f = some (.lst []) := upd_same
    generalize upd (upd H p (.lst (ns.map V.int))) f (.lst []) = H1 at s0 hp2 hf2
    refine ⟨_, rfl, .inl ⟨_, rfl, _, rfl, p, _, rfl, .inl (SqL.of hp2), _, _, rfl, ?_⟩⟩
    have hmin : (if (((ns.map V.int).length : Nat) : Int) < (m : Nat) then (((ns.map V.int).length : Nat) : Int) else (m : Nat)) = (m : Nat) := by rw [List.length_map, if_neg (by omega)]
    rw [hmin]
    refine ⟨_, rfl, by omega, by omega, ?_⟩
    refine for_range (n := m) (fun i σ H' => ∃ (v5 : Option V) (as ps : List Int), σ = [some (.ref t), some (.ref g), some (.int m), some (.ref p), some (.ref f), v5] ∧ Keep t H H' ∧ Tin H' t (c + i) ∧ H' p = some (.lst (ps.map V.int)) ∧ H' f = some (.lst (as.map V.int)) ∧ as.length = i ∧ (as ++ ps).Perm ns)
      ⟨none, [], ns, rfl, Keep.of s0, (hT.same s0).mono (by omega), hp2, hf2, rfl, List.Perm.refl _⟩ ?_ ?_
    · rintro i σ H2 hi ⟨v5, as, ps, rfl, k2, hT2, hpp, hff, hal, hperm⟩
      have hlen : as.length + ps.length = ns.length := by rw [← List.length_append]; exact hperm.length_eq
      refine ⟨_, rfl, .inl ⟨rfl, _, SqL.of hff⟩, ?_⟩
      refine ⟨_, rfl, .inl ⟨rfl, _, SqL.of hpp⟩, ?_⟩
      refine ⟨_, rfl, _, rfl, p, _, rfl, .inl (SqL.of hpp), t, _, _, rfl, hT2, by omega, by rw [List.length_map]; omega, by rw [List.length_map]; omega, fun r H3 r0 r1 k3 hT3 => ?_⟩
      obtain ⟨j, rfl⟩ := Int.eq_ofNat_of_zero_le r0
      rw [List.length_map] at r1
      have hj : j < ps.length := by omega
      have hpp3 := k3 _ _ (Ne.symm npt) hpp
      refine ⟨p, _, j, j, .int ps[j], rfl, rfl, hpp3, by omega, by omega, ?_, by rw [List.getElem?_map, List.getElem?_eq_getElem hj]; rfl, ?_⟩
      · have := seqIndex_of (k := (j : Int)) (n := (ps.map V.int).length) (by omega) (by rw [List.length_map]; omega)
        rw [Int.toNat_natCast] at this
        exact this
      have hff3 := k3 _ _ (Ne.symm nft) hff
      refine ⟨f, _, _, rfl, rfl, by rw [upd_ne (Ne.symm npf)]; exact hff3, small16' (by rw [List.length_map]; omega), ?_⟩
      refine ⟨_, as ++ [ps[j]], ps.eraseIdx j, rfl, ?_, ?_, ?_, ?_, ?_, ?_⟩
      · exact fun b o nb e => by
          have e2 := k3 _ _ nb (k2 _ _ nb e)
          rw [upd_ne (ne_of_none e hfH), upd_ne (ne_of_none e hpH)]
          exact e2
      · obtain ⟨t0, t1, t2, z0, z1, z2, z3, z4⟩ := hT3
        exact ⟨t0, t1, t2, by rw [upd_ne nft, upd_ne npt]; exact z0, z1, z2, z3, by omega⟩
      · rw [upd_ne npf, upd_same, map_erase]
      · rw [upd_same, List.map_append]
        rfl
      · rw [List.length_append, hal]
        rfl
      · rw [List.append_assoc]
        exact (List.Perm.append_left as (perm_erase ps j hj)).trans hperm
    · rintro σ H2 ⟨v5, as, ps, rfl, k2, hT2, hpp, hff, hal, hperm⟩
      exact ⟨_, rfl, k f as ps H2 k2 hT2 hfH hff hal hperm⟩
def spCells (K : PySem.W.Frag) : Sp := fun vs H Q _ => ∃ (a : Addr) (ns : List Int), vs = [.ref a, .int 1] ∧ SqL K H a (ns.map V.int) ∧ ns.length ≤ 63 ∧ ∀ p c H', Same H H' → H' p = some (.lst [.int c]) → Q (.ref p) H'
theorem ok_law_cells (T : Txt K mg) : FnOk P w K mg base CX0 1 T.law_cells.f T.law_cells.fd ["_law_script", "_law_most_so"] (spCells K) := by
  refine T.law_cells.F.ok sc_law_cells (fun vs H Q E h => ?_) (fun cdv A outer s H vs Q E hr h => ?_)
  · obtain ⟨a, ns, rfl, _⟩ := h; rfl
  · obtain ⟨a, ns, rfl, hS, hl, k⟩ := h
    refine ⟨_, (pss_cons (ps_set (i := 2) sc_law_cells.nd rfl (Or.inl rfl) (pe_orT (pe_callTy call_list_of (by rfl) T.z_list (by decide +kernel) (pa_cons (pe_slice sl_list (pv 0) po_none (po_some (pv 1))) pa_nil)) (pe_one (pe_lst (pa_cons pe_int pa_nil)))))
      (pss_cons (ps_for PassesOwn.never rfl (pi_enum rfl T.z_enumerate (pa_cons (pe_slice sl_list (pv 0) (po_some (pv 1)) (po_some pe_int)) pa_nil)) (pg_tup rfl (pgs_cons (pg_name (i := 3) sc_law_cells.nd rfl (Or.inl rfl)) (pgs_cons (pg_name (i := 4) sc_law_cells.nd rfl (Or.inl rfl)) pgs_nil))) (pss_cons (ps_set (i := 5) sc_law_cells.nd rfl (Or.inl rfl) (pe_op op_mod (pe_callTy call_int1 (by rfl) T.z_int (by decide +kernel) (pa_cons (pv 3) pa_nil)) (pv 1)))
      (pss_one (ps_asg (pe_op op_add (pe_ix (r := rIxL K) ix_list (pv 2) (pv 5) (fun _ _ => rfl)) (pe_op op_mul (pv 4) (pe_op op_add (pv 3) pe_int))) (pg_sub (pv 2) (pv 5) set_list)))))
      (pss_one (ps_ret (pv 2))))), ?_⟩
    refine ⟨_, rfl, _, rfl, _, rfl, a, _, rfl, hS, fun p0 hp0 => ⟨p0, _, rfl, .inl (SqL.of upd_same), fun p hp => ?_⟩⟩
    have sp : Same H (upd (upd H p0 (.lst (cutV (ns.map V.int) none (some 1)))) p (.lst (cutV (ns.map V.int) none (some 1)))) := (Same.new hp0).trans (Same.new hp)
    have hpH : H p = none := Same.free (Same.new hp0) hp
    have hp1 : upd (upd H p0 (.lst (cutV (ns.map V.int) none (some 1)))) p (.lst (cutV (ns.map V.int) none (some 1))) p = some (.lst (cutV (ns.map V.int) none (some 1))) := upd_same
    generalize upd (upd H p0 (.lst (cutV (ns.map V.int) none (some 1)))) p (.lst (cutV (ns.map V.int) none (some 1))) = H0 at sp hp1
    obtain ⟨ms, em, hml⟩ := cut_ints ns (some 1) (some 63)
    refine ⟨_, .inl ⟨_, SqL.of hp1, rfl⟩, ?_⟩
    have two : (!(cutV (ns.map V.int) none (some 1)).isEmpty) = false ∨ ∃ c, (!(cutV (ns.map V.int) none (some 1)).isEmpty) = true ∧ H0 p = some (.lst [.int c]) := by
      cases ns with
      | nil => exact .inl rfl
      | cons n r =>
        rw [List.map_cons, cutTo1] at hp1 ⊢
        exact .inr ⟨n, rfl, hp1⟩
    rcases two with e0 | ⟨c0, e0, hq1⟩
    · rw [e0]
      refine ⟨by show 1 ≤ sizeLine; decide, fun q hq => ?_⟩
      have s1 : Same H (upd H0 q (.lst [.int 0])) := sp.trans (Same.new hq)
      have hqH : H q = none := Same.free sp hq
      have hq1 : upd H0 q (.lst [.int 0]) q = some (.lst [.int 0]) := upd_same
      generalize upd H0 q (.lst [.int 0]) = H1 at s1 hq1
      obtain ⟨c0, hq1⟩ : ∃ c0 : Int, H1 q = some (.lst [.int c0]) := ⟨0, hq1⟩
      refine ⟨_, rfl, _, rfl, _, rfl, _, rfl, a, _, rfl, Same.seq s1 hS, fun e he => ?_⟩
      have heH := Same.free s1 he
      have hq2 : upd H1 e (.lst (cutV (ns.map V.int) (some 1) (some 63))) q = some (.lst [.int c0]) := Same.new he _ _ hq1
      have he2 : upd H1 e (.lst (cutV (ns.map V.int) (some 1) (some 63))) e = some (.lst (ms.map V.int)) := by rw [upd_same, em]
      have s2 : Same H (upd H1 e (.lst (cutV (ns.map V.int) (some 1) (some 63)))) := s1.trans (Same.new he)
      have nqe : q ≠ e := ne_of_none hq1 he
      generalize upd H1 e (.lst (cutV (ns.map V.int) (some 1) (some 63))) = H2 at hq2 he2 s2
      refine ⟨e, _, rfl, SqL.of he2, for_it walk_enum (fun i σ H' => ∃ (v3 v4 v5 : Option V) (c : Int), σ = [some (.ref a), some (.int 1), some (.ref q), v3, v4, v5] ∧ Same H H' ∧ H' q = some (.lst [.int c]) ∧ H' e = some (.lst (ms.map V.int)))
        ⟨none, none, none, c0, rfl, s2, hq2, he2⟩ (fun i σ H' _ ⟨_, _, _, _, _, _, _, z⟩ => SqL.of z) ?_ ?_⟩
      · rintro i x σ H3 H4 hi ⟨v3, v4, v5, c, rfl, s3, hq3, he3⟩ ⟨T1, b1, b2, rfl, hnn, rfl, e1, e2⟩
        obtain ⟨rfl, hi2⟩ := ints_at e2
        cases Option.some.inj e1
        have hq4 : upd H3 T1 (.tup [.int i, .int (ms.getD i 0)]) q = some (.lst [.int c]) := Same.new hnn _ _ hq3
        have he4 : upd H3 T1 (.tup [.int i, .int (ms.getD i 0)]) e = some (.lst (ms.map V.int)) := Same.new hnn _ _ he3
        refine ⟨T1, _, rfl, SqT.of upd_same, rfl, _, _, rfl, _, _, rfl, rfl, ?_⟩
        refine ⟨_, rfl, .inl ⟨_, rfl, _, rfl, _, _, rfl, rfl, (by show (0 : Int) < 1; decide), ?_⟩⟩
        have hz : ((i : Int) % 1) = 0 := Int.emod_one _
        dsimp only
        rw [hz]
        refine ⟨_, rfl, _, rfl, q, _, 0, .int c, rfl, rfl, SqL.of hq4, rfl, _, rfl, _, rfl, _, _, rfl, rfl, _, _, rfl, rfl, .inr ⟨by omega, by omega⟩, _, _, rfl, rfl, _, rfl, _, rfl, q, _, 0, 0, rfl, rfl, hq4, rfl, ?_⟩
        exact ⟨_, _, _, _, rfl, Same.mut (s3.trans (Same.new hnn)) hqH, upd_same, by rw [upd_ne (Ne.symm nqe)]; exact he4⟩
      · rintro σ H3 ⟨v3, v4, v5, c, rfl, s3, hq3, he3⟩
        exact ⟨_, rfl, k q c H3 s3 hq3⟩
    · rw [e0]
      have s1 : Same H H0 := sp
      generalize H0 = H1 at s1 hq1
      have hqH := hpH
      generalize p = q at hqH hq1
      refine ⟨_, rfl, _, rfl, _, rfl, _, rfl, a, _, rfl, Same.seq s1 hS, fun e he => ?_⟩
      have heH := Same.free s1 he
      have hq2 : upd H1 e (.lst (cutV (ns.map V.int) (some 1) (some 63))) q = some (.lst [.int c0]) := Same.new he _ _ hq1
      have he2 : upd H1 e (.lst (cutV (ns.map V.int) (some 1) (some 63))) e = some (.lst (ms.map V.int)) := by rw [upd_same, em]
      have s2 : Same H (upd H1 e (.lst (cutV (ns.map V.int) (some 1) (some 63)))) := s1.trans (Same.new he)
      have nqe : q ≠ e := ne_of_none hq1 he
      generalize upd H1 e (.lst (cutV (ns.map V.int) (some 1) (some 63))) = H2 at hq2 he2 s2
      refine ⟨e, _, rfl, SqL.of he2, for_it walk_enum (fun i σ H' => ∃ (v3 v4 v5 : Option V) (c : Int), σ = [some (.ref a), some (.int 1), some (.ref q), v3, v4, v5] ∧ Same H H' ∧ H' q = some (.lst [.int c]) ∧ H' e = some (.lst (ms.map V.int)))
        ⟨none, none, none, c0, rfl, s2, hq2, he2⟩ (fun i σ H' _ ⟨_, _, _, _, _, _, _, z⟩ => SqL.of z) ?_ ?_⟩
      · rintro i x σ H3 H4 hi ⟨v3, v4, v5, c, rfl, s3, hq3, he3⟩ ⟨T1, b1, b2, rfl, hnn, rfl, e1, e2⟩
        obtain ⟨rfl, hi2⟩ := ints_at e2
        cases Option.some.inj e1
        have hq4 : upd H3 T1 (.tup [.int i, .int (ms.getD i 0)]) q = some (.lst [.int c]) := Same.new hnn _ _ hq3
        have he4 : upd H3 T1 (.tup [.int i, .int (ms.getD i 0)]) e = some (.lst (ms.map V.int)) := Same.new hnn _ _ he3
        refine ⟨T1, _, rfl, SqT.of upd_same, rfl, _, _, rfl, _, _, rfl, rfl, ?_⟩
        refine ⟨_, rfl, .inl ⟨_, rfl, _, rfl, _, _, rfl, rfl, (by show (0 : Int) < 1; decide), ?_⟩⟩
        have hz : ((i : Int) % 1) = 0 := Int.emod_one _
        dsimp only
        rw [hz]
        refine ⟨_, rfl, _, rfl, q, _, 0, .int c, rfl, rfl, SqL.of hq4, rfl, _, rfl, _, rfl, _, _, rfl, rfl, _, _, rfl, rfl, .inr ⟨by omega, by omega⟩, _, _, rfl, rfl, _, rfl, _, rfl, q, _, 0, 0, rfl, rfl, hq4, rfl, ?_⟩
        exact ⟨_, _, _, _, rfl, Same.mut (s3.trans (Same.new hnn)) hqH, upd_same, by rw [upd_ne (Ne.symm nqe)]; exact he4⟩
      · rintro σ H3 ⟨v3, v4, v5, c, rfl, s3, hq3, he3⟩
        exact ⟨_, rfl, k q c H3 s3 hq3⟩
end
end E8
set_option Elab.async false
set_option linter.all false
set_option maxRecDepth 100000
/-! D10: the law's own words of bits, marks and turns. -/
namespace E8
open PySem PySem.Spec PyProof.Rows L2
def onesUp (b i : Nat) : Nat := (List.range i).foldl (fun a j => a + b / 2 ^ j % 2) 0
theorem onesUp_succ (b i : Nat) : onesUp b (i + 1) = onesUp b i + b / 2 ^ i % 2 := by
  unfold onesUp
  rw [List.range_succ, List.foldl_append]
  rfl
theorem onesUp_end : ∀ b, b < 32 → ∀ i, i ≤ 5 → b / 2 ^ i = 0 → onesUp b i = onesN b := by decide +kernel
theorem onesUp_go : ∀ b, b < 32 → ∀ i, i ≤ 5 → 0 < b / 2 ^ i → i ≤ 4 := by decide +kernel
def turnLF (x : Nat) (k : Nat) (m : Int) : Option Int := if m ≠ 0 ∧ par (k + 1) x = 1 then some m else none
theorem turnLF_sum (x : Nat) (ms : List Int) : (pick (turnLF x) ms ms.length).sum % 8 = turnM ms x := by
  rw [pick_all]
  unfold turnM dot
  congr 1
  refine esum_congr ms 0 fun j m _ _ => ?_
  unfold turnLF
  by_cases h : m = 0
  · rw [if_neg (by simp [h]), h, Int.zero_mul]; rfl
  · by_cases h2 : par (j + 1) x = 1
    · rw [if_pos ⟨h, h2⟩]
      show m = m * ((par (j + 1) x : Nat) : Int)
      rw [h2]; simp
    · have h3 : par (j + 1) x = 0 := by have := par_le (j + 1) x; omega
      rw [if_neg (fun z => h2 z.2)]
      show (0 : Int) = m * ((par (j + 1) x : Nat) : Int)
      rw [h3]; simp
section
variable {P : Program} {w : World} {K : PySem.W.Frag} {mg : Str → Option Value} {base : Heap}
theorem ok_law_is_number (T : Txt K mg) : FnOk P w K mg base CX0 1 T.law_is_number.f T.law_is_number.fd ["_law_own"] spNum := by
  refine T.law_is_number.F.ok sc_law_is_number (fun vs H Q E h => ?_) (fun cdv A outer s H vs Q E hr h => ?_)
  · obtain ⟨i, rfl, _⟩ := h; rfl
  · obtain ⟨i, rfl, k⟩ := h
    refine ⟨_, (pss_one (ps_ret (pe_and (pe_callB call_isi (by rfl) T.z_isinstance (by decide +kernel) (pa_cons (pv 0) (pa_cons (pe_bltn (v := .ty "int") rfl T.z_int (by decide +kernel) rfl) pa_nil))) (pe_one (pe_not (pe_callB call_isi (by rfl) T.z_isinstance (by decide +kernel) (pa_cons (pv 0) (pa_cons (pe_bltn (v := .ty "bool") rfl T.z_bool (by decide +kernel) rfl) pa_nil)))))))), ?_⟩
    exact ⟨_, rfl, _, _, _, _, true, rfl, .ty _, .base (.int i), kit_ii, true, rfl, _, rfl, _, _, _, _, false, rfl, .ty _, .base (.int i), kit_ib, false, rfl, k⟩
theorem ok_law_par (T : Txt K mg) : FnOk P w K mg base CX0 1 T.law_par.f T.law_par.fd ["_law_one_so", "_law_other_so"] spPar := by
  refine T.law_par.F.ok sc_law_par (fun vs H Q E h => ?_) (fun cdv A outer s H vs Q E hr h => ?_)
  · obtain ⟨a, b, rfl, _⟩ := h; rfl
  · obtain ⟨a, b, rfl, k⟩ := h
    refine ⟨_, (pss_cons (ps_set (i := 2) sc_law_par.nd rfl (Or.inl rfl) (pe_op op_andC (pe_callTy call_int1 (by rfl) T.z_int (by decide +kernel) (pa_cons (pv 0) pa_nil)) (pe_callTy call_int1 (by rfl) T.z_int (by decide +kernel) (pa_cons (pv 1) pa_nil))))
      (pss_cons (ps_set (i := 2) sc_law_par.nd rfl (Or.inl rfl) (pe_op op_xorC (pv 2) (pe_op op_fdiv (pv 2) pe_int)))
      (pss_cons (ps_set (i := 2) sc_law_par.nd rfl (Or.inl rfl) (pe_op op_xorC (pv 2) (pe_op op_fdiv (pv 2) pe_int)))
      (pss_one (ps_ret (pe_op op_mod (pe_op op_xorC (pv 2) (pe_op op_fdiv (pv 2) pe_int)) pe_int)))))), ?_⟩
    refine ⟨_, rfl, .inl ⟨_, rfl, _, rfl, .inl ⟨_, rfl, a, b, rfl, rfl, ?_⟩⟩⟩
    refine ⟨_, rfl, _, rfl, _, _, rfl, rfl, ⟨by decide, by decide⟩, (a &&& b), (a &&& b) / 16, rfl, rfl, ?_⟩
    refine ⟨_, rfl, _, rfl, _, _, rfl, rfl, ⟨by decide, by decide⟩, _, ((a &&& b) ^^^ (a &&& b) / 16) / 4, rfl, rfl, ?_⟩
    refine ⟨_, rfl, _, rfl, _, _, rfl, rfl, ⟨by decide, by decide⟩, _, (((a &&& b) ^^^ (a &&& b) / 16) ^^^ ((a &&& b) ^^^ (a &&& b) / 16) / 4) / 2, rfl, rfl, _, _, rfl, rfl, (by show (0 : Int) < 2; decide), ?_⟩
    exact k
def spOnes : Sp := fun vs H Q _ => ∃ b : Nat, vs = [.int b] ∧ b < 32 ∧ Q (.int (onesN b : Nat)) H
theorem ok_law_ones (T : Txt K mg) : FnOk P w K mg base CX0 1 T.law_ones.f T.law_ones.fd ["_law_own"] spOnes := by
  refine T.law_ones.F.ok sc_law_ones (fun vs H Q E h => ?_) (fun cdv A outer s H vs Q E hr h => ?_)
  · obtain ⟨b, rfl, _⟩ := h; rfl
  · obtain ⟨b, rfl, hb, k⟩ := h
    refine ⟨_, (pss_cons (ps_set (i := 1) sc_law_ones.nd rfl (Or.inl rfl) pe_int)
      (pss_cons (ps_while PassesOwn.never (pt_cmpR op_gt (pv 0) pe_int (nomark _)) (pss_one (ps_par (i := 0) (j := 1) rfl sc_law_ones.nd rfl rfl (by decide) rfl rfl (pa_cons (pe_op op_fdiv (pv 0) pe_int) (pa_cons (pe_op op_add (pv 1) (pe_op op_mod (pv 0) pe_int)) pa_nil)) (by rfl))))
      (pss_one (ps_ret (pv 1))))), ?_⟩
    refine while_by (fun σ H' => H' = H ∧ ∃ i, i ≤ 5 ∧ σ = [some (.int (b / 2 ^ i : Nat)), some (.int (onesUp b i : Nat))]) (fun σ _ => match σ with | [some (.int i), _] => i.toNat | _ => 0) ⟨rfl, 0, by omega, ?_⟩ ?_ ?_
    · show _ = [some (V.int ((b / 1 : Nat) : Int)), some (V.int ((0 : Nat) : Int))]
      rw [Nat.div_one]
      rfl
    · rintro σ H' ⟨rfl, i, hi, rfl⟩
      refine ⟨_, rfl, _, _, rfl, rfl, _, rfl, ?_⟩
      by_cases h0 : 0 < b / 2 ^ i
      · rw [decide_eq_true (show (0 : Int) < (b / 2 ^ i : Nat) by omega)]
        have hi4 := onesUp_go b hb i hi h0
        refine ⟨_, rfl, _, _, rfl, rfl, ⟨by decide, by decide⟩, _, rfl, _, rfl, _, _, rfl, rfl, (by show (0 : Int) < 2; decide), _, _, rfl, rfl, _, _, rfl, ⟨rfl, i + 1, by omega, ?_⟩, ?_⟩
        · rw [onesUp_succ, show b / 2 ^ (i + 1) = b / 2 ^ i / 2 by rw [Nat.pow_succ, ← Nat.div_div_eq_div_mul]]
          rfl
        · show (((b / 2 ^ i : Nat) : Int) / 2).toNat < (((b / 2 ^ i : Nat) : Int)).toNat
          generalize b / 2 ^ i = z at h0
          omega
      · have hz : b / 2 ^ i = 0 := Nat.eq_zero_of_not_pos h0
        rw [decide_eq_false (show ¬ (0 : Int) < ((b / 2 ^ i : Nat) : Int) by rw [hz]; decide)]
        refine ⟨_, rfl, ?_⟩
        rw [onesUp_end b hb i hi hz]
        exact k
    · rintro σ H' Q1 Q2 hq ⟨x, e, i, j, e1, e2, c, e3, q⟩
      exact ⟨x, e, i, j, e1, e2, c, e3, hq _ _ q⟩
theorem ok_law_wire (T : Txt K mg) : FnOk P w K mg base CX0 1 T.law_wire.f T.law_wire.fd ["_law_n_so", "_law_wire_so"] spWb := by
  refine T.law_wire.F.ok sc_law_wire (fun vs H Q E h => ?_) (fun cdv A outer s H vs Q E hr h => ?_)
  · obtain ⟨a, b, rfl, _⟩ := h; rfl
  · obtain ⟨n, q, rfl, h1, h2, k⟩ := h
    refine ⟨_, (pss_one (ps_ret (pe_op op_shlC pe_int (pe_op op_sub (pe_op op_sub (pv 0) pe_int) (pv 1))))), ?_⟩
    have e : (n : Int) - 1 - q = ((n - 1 - q : Nat) : Int) := by omega
    refine ⟨_, rfl, _, _, rfl, rfl, _, rfl, _, _, rfl, rfl, 1, n - 1 - q, rfl, congrArg V.int e, by decide, by omega, ?_⟩
    show Q (.int ((1 * 2 ^ (n - 1 - q) : Nat) : Int)) H
    rw [Nat.one_mul]
    exact k
def spLt (K : PySem.W.Frag) : Sp := fun vs H Q _ => ∃ (a : Addr) (ms : List Int), vs = [.ref a] ∧ (SqL K H a (ms.map V.int) ∨ SqT K H a (ms.map V.int)) ∧ ms.length ≤ 1000 ∧ ∀ H' p, Same H H' → SqT K H' p ((turnsM ms).map V.int) → Q (.ref p) H'
theorem ok_law_turns (T : Txt K mg) : FnOk P w K mg base CX0 2 T.law_turns.f T.law_turns.fd ["_law_marks_so"] (spLt K) := by
  refine T.law_turns.F.ok sc_law_turns (fun vs H Q E h => ?_) (fun cdv A outer s H vs Q E hr h => ?_)
  · obtain ⟨a, ms, rfl, _⟩ := h; rfl
  · obtain ⟨a, ms, rfl, hT, hl, k⟩ := h
    refine ⟨_, (pss_cons (ps_set (i := 1) sc_law_turns.nd rfl (Or.inl rfl) (pe_lst pa_nil))
      (pss_cons (ps_for PassesOwn.never rfl (pi_range1 rfl T.z_range (pa_cons (pe_op op_add (pe_callB call_lenC (by rfl) T.z_len (by decide +kernel) (pa_cons (pv 0) pa_nil)) pe_int) pa_nil)) (pg_name (i := 2) sc_law_turns.nd rfl (Or.inr rfl)) (pss_one (ps_expr (pe_bm PySem.F.plainAttrs_list PySem.F.slot_list_append PySem.F.type_list_append mt_append (pv 1) (pa_cons (pe_op op_mod (pe_callB (cr_sum rfl) (by rfl) T.z_sum (by decide +kernel) (pa_cons (pe_lc (own := [("_law_k", 3), ("_law_own", 4)]) (g := gTup K 2 (gCons (gName 3) (gCons (gName 4) (gNil)))) rfl sc_law_turns.nd (pi_enumA rfl T.z_enumerate (pa_cons (pv 0) pa_nil)) (blkOk_by (N := ["_law_marks_so", "_law_found", "_law_x", "_law_k", "_law_own"]) (sc := defScope s_law_turns) (by decide +kernel)) (fun _ _ _ _ _ => (pg_tup rfl (pgs_cons (pg_name (i := 3) sc_law_turns.nd rfl (Or.inl rfl)) (pgs_cons (pg_name (i := 4) sc_law_turns.nd rfl (Or.inl rfl)) pgs_nil)))) (fun _ _ _ _ _ => (pts_one (PW.pt (pw_and (pt_cmpR op_ne (pv 4) pe_int (nomark _)) (pw_and1 (pt_cmpR op_eq (pe_call (ok_law_par T) (hr.mono (by decide)) rfl T.law_par.m T.law_par.F.kp T.law_par.b .nil pass0 (pa_cons (pe_op op_add (pv 3) pe_int) (pa_cons (pv 2) pa_nil))) pe_int (nomark _))))))) (fun _ _ _ _ _ => (pv 4))) pa_nil)) pe_int) pa_nil)))))
      (pss_one (ps_ret (pe_callTy call_tuple_of (by rfl) T.z_tuple (by decide +kernel) (pa_cons (pv 1) pa_nil)))))), ?_⟩
    refine ⟨Nat.zero_le _, fun f hf => ?_⟩
    have hT1 : SqL K (upd H f (.lst [])) a (ms.map V.int) ∨ SqT K (upd H f (.lst [])) a (ms.map V.int) := hT.imp (Same.seq (Same.new hf)) (Same.tup (Same.new hf))
    refine ⟨_, rfl, a, _, rfl, hT1, _, _, rfl, rfl, _, rfl, ?_, ?_, ?_⟩
    · rw [List.length_map]; omega
    · rw [List.length_map]; omega
    have hn : (((List.map V.int ms).length : Nat) + 1 : Int).toNat = ms.length + 1 := by rw [List.length_map]; omega
    have naf : ∀ {H' : Hp}, Same H H' → (SqL K H' a (ms.map V.int) ∨ SqT K H' a (ms.map V.int)) := fun e => hT.imp (Same.seq e) (Same.tup e)
    rw [hn]
    refine for_range (fun i σ H' => ∃ v2 : Option V, σ = [some (.ref a), some (.ref f), v2, none, none] ∧ Same H H' ∧ H' f = some (.lst (((List.range i).map (turnM ms)).map V.int)))
      ⟨none, rfl, Same.new hf, upd_same⟩ ?_ ?_
    · rintro i σ H1 hi ⟨v2, rfl, s1, hf1⟩
      refine ⟨_, rfl, .inl ⟨rfl, _, SqL.of hf1⟩, ?_⟩
      rcases naf s1 with hS | hS
      · refine ⟨_, rfl, a, _, rfl, .inl ⟨hS, fun D hD => ?_⟩⟩
        refine lc_pure walk_enum (fun j => (pick (turnLF i) ms j).map V.int) (by rw [List.length_map]; omega) hD rfl (fun j _ => by rw [List.length_map]; exact pick_le _ _ _) (fun H2 e => Same.seq e hS) ?_ ?_
        · rintro j v H2 H3 hj sm ⟨T1, b1, b2, rfl, hnn, rfl, e1, e2⟩ yes no ky kn
          obtain ⟨rfl, hi2⟩ := ints_at e2
          cases Option.some.inj e1
          refine ⟨T1, _, rfl, SqT.of upd_same, rfl, _, _, rfl, _, _, rfl, rfl, rfl, ?_⟩
          refine ⟨_, rfl, rfl, _, rfl, ?_⟩
          have ea := pick_succ (turnLF i) ms j
          by_cases hz : ms.getD j 0 = 0
          · rw [decide_eq_true (by rw [hz])]
            refine kn _ (Same.new hnn) ?_
            rw [ea, show turnLF i j (ms.getD j 0) = none from if_neg (fun z => z.1 hz)]
            simp
          · rw [decide_eq_false (by intro q; exact hz (V.int.inj q))]
            refine ⟨_, rfl, _, _, rfl, rfl, _, rfl, j + 1, i, by simp, rfl, _, rfl, ?_⟩
            by_cases hp : par (j + 1) i = 1
            · rw [decide_eq_true (show V.int ((par (j + 1) i : Nat) : Int) = .int 1 by rw [hp]; rfl)]
              refine ⟨_, rfl, ky _ _ (Same.new hnn) ?_⟩
              rw [ea, show turnLF i j (ms.getD j 0) = some _ from if_pos ⟨hz, hp⟩]
              simp
            · rw [decide_eq_false (show ¬ V.int ((par (j + 1) i : Nat) : Int) = .int 1 from fun q => hp (Int.ofNat.inj (V.int.inj q)))]
              refine kn _ (Same.new hnn) ?_
              rw [ea, show turnLF i j (ms.getD j 0) = none from if_neg (fun z => hp z.2)]
              simp
        · intro H2 e1 e2
          rw [List.length_map] at e2
          refine ⟨D, _, rfl, SqL.of e2, _, _, rfl, rfl, (by show (0 : Int) < 8; decide), ?_⟩
          refine ⟨f, _, _, rfl, rfl, e1 _ _ hf1, small16' (by rw [List.length_map, List.length_map, List.length_range]; omega), ?_⟩
          refine ⟨_, rfl, Same.mut (s1.trans e1) hf, ?_⟩
          rw [upd_same, List.range_succ, List.map_append, List.map_append]
          show some (HO.lst (_ ++ [V.int ((pick (turnLF i) ms ms.length).sum % 8)])) = _
          rw [turnLF_sum]
          rfl
      · refine ⟨_, rfl, a, _, rfl, .inr ⟨hS, fun D hD => ?_⟩⟩
        refine lc_pure walk_enumT (fun j => (pick (turnLF i) ms j).map V.int) (by rw [List.length_map]; omega) hD rfl (fun j _ => by rw [List.length_map]; exact pick_le _ _ _) (fun H2 e => Same.tup e hS) ?_ ?_
        · rintro j v H2 H3 hj sm ⟨T1, b1, b2, rfl, hnn, rfl, e1, e2⟩ yes no ky kn
          obtain ⟨rfl, hi2⟩ := ints_at e2
          cases Option.some.inj e1
          refine ⟨T1, _, rfl, SqT.of upd_same, rfl, _, _, rfl, _, _, rfl, rfl, rfl, ?_⟩
          refine ⟨_, rfl, rfl, _, rfl, ?_⟩
          have ea := pick_succ (turnLF i) ms j
          by_cases hz : ms.getD j 0 = 0
          · rw [decide_eq_true (by rw [hz])]
            refine kn _ (Same.new hnn) ?_
            rw [ea, show turnLF i j (ms.getD j 0) = none from if_neg (fun z => z.1 hz)]
            simp
          · rw [decide_eq_false (by intro q; exact hz (V.int.inj q))]
            refine ⟨_, rfl, _, _, rfl, rfl, _, rfl, j + 1, i, by simp, rfl, _, rfl, ?_⟩
            by_cases hp : par (j + 1) i = 1
            · rw [decide_eq_true (show V.int ((par (j + 1) i : Nat) : Int) = .int 1 by rw [hp]; rfl)]
              refine ⟨_, rfl, ky _ _ (Same.new hnn) ?_⟩
              rw [ea, show turnLF i j (ms.getD j 0) = some _ from if_pos ⟨hz, hp⟩]
              simp
            · rw [decide_eq_false (show ¬ V.int ((par (j + 1) i : Nat) : Int) = .int 1 from fun q => hp (Int.ofNat.inj (V.int.inj q)))]
              refine kn _ (Same.new hnn) ?_
              rw [ea, show turnLF i j (ms.getD j 0) = none from if_neg (fun z => hp z.2)]
              simp
        · intro H2 e1 e2
          rw [List.length_map] at e2
          refine ⟨D, _, rfl, SqL.of e2, _, _, rfl, rfl, (by show (0 : Int) < 8; decide), ?_⟩
          refine ⟨f, _, _, rfl, rfl, e1 _ _ hf1, small16' (by rw [List.length_map, List.length_map, List.length_range]; omega), ?_⟩
          refine ⟨_, rfl, Same.mut (s1.trans e1) hf, ?_⟩
          rw [upd_same, List.range_succ, List.map_append, List.map_append]
          show some (HO.lst (_ ++ [V.int ((pick (turnLF i) ms ms.length).sum % 8)])) = _
          rw [turnLF_sum]
          rfl
    · rintro σ H1 ⟨v2, rfl, s1, hf1⟩
      refine ⟨_, rfl, f, _, rfl, .inl ⟨SqL.of hf1, fun p hp => ?_⟩⟩
      exact k _ p (s1.trans (Same.new hp)) (SqT.of upd_same)
def spAm (K : PySem.W.Frag) : Sp := fun vs H Q _ => ∃ (a : Addr) (ms : List Int) (n : Nat), vs = [.ref a, .int n] ∧ SqT K H a (ms.map V.int) ∧ n ≤ 5 ∧ ms.length = 2 ^ n - 1 ∧ (∀ u ∈ ms, 0 ≤ u ∧ u < 8) ∧ ∀ H', Same H H' → Q (.bl true) H'
theorem ok_law_are_marks (T : Txt K mg) : FnOk P w K mg base CX0 2 T.law_are_marks.f T.law_are_marks.fd ["_law_own", "_law_n_so"] (spAm K) := by
  refine T.law_are_marks.F.ok sc_law_are_marks (fun vs H Q E h => ?_) (fun cdv A outer s H vs Q E hr h => ?_)
  · obtain ⟨a, ms, n, rfl, _⟩ := h; rfl
  · obtain ⟨a, ms, n, rfl, hT, hn, hl, hb, k⟩ := h
    have h32 : 2 ^ n ≤ 2 ^ 5 := Nat.pow_le_pow_right (by decide) hn
    have hp0 : 0 < 2 ^ n := Nat.two_pow_pos n
    refine ⟨_, (pss_cons (ps_if (PW.pt (pw_or (pt_not (pt_val (pe_callB call_isi (by rfl) T.z_isinstance (by decide +kernel) (pa_cons (pv 0) (pa_cons (pe_bltn (v := .ty "tuple") rfl T.z_tuple (by decide +kernel) rfl) pa_nil))))) (pw_or1 (pt_cmpR op_ne (pe_callB call_lenC (by rfl) T.z_len (by decide +kernel) (pa_cons (pv 0) pa_nil)) (pe_op op_sub (pe_op op_shlC pe_int (pv 1)) pe_int) (nomark _))))) (pss_one (ps_ret pe_bl)) pss_nil)
      (pss_one (ps_ret (pe_callB (cr_all rfl) (by rfl) T.z_all (by decide +kernel) (pa_cons (pe_lc (own := [("_law_bit", 2)]) (g := gName 2) (tt := tYes) rfl sc_law_are_marks.nd (pi_tup (pv 0)) (blkOk_by (N := ["_law_own", "_law_n_so", "_law_bit"]) (sc := defScope s_law_are_marks) (by decide +kernel)) (fun _ _ _ _ _ => (pg_name (i := 2) sc_law_are_marks.nd rfl (Or.inl rfl))) (fun _ _ _ _ _ => pts_nil) (fun _ _ _ _ _ => (pe_and (pe_call (ok_law_is_number T) (hr.mono (by decide)) rfl T.law_is_number.m T.law_is_number.F.kp T.law_is_number.b .nil pass0 (pa_cons (pv 2) pa_nil)) (pe_one (pe_chain op_le op_lt pe_int (pv 2) pe_int))))) pa_nil))))), ?_⟩
    refine ⟨_, rfl, _, _, _, _, true, rfl, .ty _, tyx_tup hT, kit_tt, true, rfl, ?_⟩
    refine ⟨_, rfl, a, _, rfl, .inr hT, _, rfl, 1, n, rfl, rfl, by decide, by omega, _, _, rfl, rfl, rfl, _, rfl, ?_⟩
    rw [decide_eq_true (show V.int ((ms.map V.int).length : Nat) = .int (((1 * 2 ^ n : Nat) : Int) - 1) by rw [List.length_map]; congr 1; omega)]
    refine ⟨_, rfl, a, rfl, ⟨_, hT⟩, fun D hD => ?_⟩
    refine lc_pure walk_tup (fun i => (List.replicate i true).map V.bl) (by rw [List.length_map]; omega) hD rfl (fun i _ => by simp) (fun H1 e => Same.tup e hT) ?_ ?_
    · rintro i v H1 H2 hi sm ⟨rfl, e1⟩ yes no ky kn
      obtain ⟨rfl, hi2⟩ := ints_at e1
      have hu := hb (ms.getD i 0) (by rw [List.getD_eq_getElem?_getD, List.getElem?_eq_getElem hi2]; exact List.getElem_mem hi2)
      refine ⟨rfl, _, rfl, _, rfl, _, rfl, _, rfl, _, _, rfl, rfl, _, rfl, ?_⟩
      rw [decide_eq_true hu.1]
      refine ⟨_, _, rfl, rfl, ?_⟩
      show yes (.bl (decide (ms.getD i 0 < 8))) _
      rw [decide_eq_true hu.2]
      refine ky _ _ (Same.refl _) ?_
      rw [List.replicate_succ', List.map_append]
      rfl
    · intro H1 e1 e2
      refine ⟨D, _, rfl, SqL.of e2, ?_⟩
      have : (List.replicate (ms.map V.int).length true).all id = true := by simp
      rw [this]
      exact k H1 e1
end
end E8
set_option Elab.async false
set_option linter.all false
set_option maxRecDepth 100000
/-! EM4: the law's own lots, in order. -/
namespace E8
open PySem PySem.Spec PyProof.Rows L2
open PySem.W (dataLe AllAlike Sortable)
def subsM (l : List Nat) : List (List Nat) := l.foldl (fun f q => f ++ f.map (· ++ [q])) [[]]
def inLot (lo hi : Nat) (c : List Nat) : Bool := decide (lo ≤ c.length ∧ c.length ≤ hi)
def pairD (c : List Nat) : PyData := .tuple [.int c.length, lotD c]
def sortM (n lo hi : Nat) : List (List Nat) := ((subsM (List.range n)).filter (inLot lo hi)).mergeSort (dataLe false pairD)
theorem perm_one {α : Type} {r : α → α → Bool} : ∀ {l m : List α}, l.Perm m → l.Pairwise (fun a b => r a b = true) → m.Pairwise (fun a b => r a b = true) → (∀ a ∈ l, ∀ b ∈ l, r a b = true → r b a = true → a = b) → l = m
  | [], m, p, _, _, _ => (List.Perm.nil_eq p)
  | a :: l, [], p, _, _, _ => absurd p.length_eq (by simp)
  | a :: l, b :: m, p, h1, h2, h3 => by
    have hb : b ∈ a :: l := p.symm.subset List.mem_cons_self
    have ha : a ∈ b :: m := p.subset List.mem_cons_self
    have e : a = b := by
      by_cases e : a = b
      · exact e
      · have hb' : b ∈ l := by
          rcases List.mem_cons.mp hb with z | z
          · exact absurd z.symm e
          · exact z
        have ha' : a ∈ m := by
          rcases List.mem_cons.mp ha with z | z
          · exact absurd z e
          · exact z
        exact h3 a List.mem_cons_self b hb ((List.pairwise_cons.mp h1).1 b hb') ((List.pairwise_cons.mp h2).1 a ha')
    subst e
    rw [perm_one (List.Perm.cons_inv p) (List.pairwise_cons.mp h1).2 (List.pairwise_cons.mp h2).2 fun x hx y hy => h3 x (List.mem_cons_of_mem _ hx) y (List.mem_cons_of_mem _ hy)]
theorem pw13 : ∀ n, n ≤ 5 → (lots n 1 3).Pairwise (fun a b => dataLe false pairD a b = true) := by decide +kernel
theorem pw14 : ∀ n, n ≤ 5 → (lots n 1 4).Pairwise (fun a b => dataLe false pairD a b = true) := by decide +kernel
theorem one14 : ∀ n, n ≤ 5 → ∀ a ∈ lots n 1 4, ∀ b ∈ lots n 1 4, dataLe false pairD a b = true → dataLe false pairD b a = true → a = b := by decide +kernel
theorem one13 : ∀ n, n ≤ 5 → ∀ a ∈ lots n 1 3, ∀ b ∈ lots n 1 3, dataLe false pairD a b = true → dataLe false pairD b a = true → a = b := by decide +kernel
theorem per13 : ∀ n, n ≤ 5 → (lots n 1 3).isPerm ((subsM (List.range n)).filter (inLot 1 3)) = true := by decide +kernel
theorem per14 : ∀ n, n ≤ 5 → (lots n 1 4).isPerm ((subsM (List.range n)).filter (inLot 1 4)) = true := by decide +kernel
theorem sort_of {n lo hi : Nat} (h1 : (lots n lo hi).Pairwise (fun a b => dataLe false pairD a b = true)) (h2 : ∀ a ∈ lots n lo hi, ∀ b ∈ lots n lo hi, dataLe false pairD a b = true → dataLe false pairD b a = true → a = b) (h3 : (lots n lo hi).isPerm ((subsM (List.range n)).filter (inLot lo hi)) = true) :
    sortM n lo hi = lots n lo hi := by
  have tl : PySem.W.TotalLe (dataLe false pairD) := PySem.W.sortLe_total _ _ _
  exact (perm_one ((List.isPerm_iff.mp h3).trans (List.mergeSort_perm _ _).symm) h1 (PySem.W.sort_pairwise tl _) h2).symm
theorem sort13 (n : Nat) (hn : n ≤ 5) : sortM n 1 3 = lots n 1 3 := sort_of (pw13 n hn) (one13 n hn) (per13 n hn)
theorem sort14 (n : Nat) (hn : n ≤ 5) : sortM n 1 4 = lots n 1 4 := sort_of (pw14 n hn) (one14 n hn) (per14 n hn)
theorem subs_len : ∀ n, n ≤ 5 → ∀ i, i ≤ n → (subsM ((List.range n).take i)).length ≤ 32 := by decide +kernel
theorem subs_low : ∀ n, n ≤ 5 → ∀ c ∈ subsM (List.range n), c.length ≤ 5 := by decide +kernel
theorem subs_succ {l : List Nat} {i q : Nat} (h : l[i]? = some q) : subsM (l.take (i + 1)) = subsM (l.take i) ++ (subsM (l.take i)).map (· ++ [q]) := by
  obtain ⟨hlt, e⟩ := List.getElem?_eq_some_iff.mp h
  unfold subsM
  rw [List.take_succ_eq_append_getElem hlt, e, List.foldl_append]
  rfl
theorem subs_in : ∀ n, n ≤ 5 → ∀ i, i ≤ n → ∀ c ∈ subsM ((List.range n).take i), c.length ≤ 5 := by decide +kernel
theorem keep_len : ∀ n, n ≤ 5 → ((subsM (List.range n)).filter (inLot 1 3)).length ≤ 32 ∧ ((subsM (List.range n)).filter (inLot 1 4)).length ≤ 32 := by decide +kernel
theorem lots14 : ∀ n, n ≤ 5 → ∀ c ∈ lots n 1 4, 1 ≤ c.length ∧ c.length ≤ 4 ∧ ∀ q ∈ c, q < n := by decide +kernel
def ascB (c : List Nat) : Bool := (List.range (c.length - 1)).all fun i => decide (c.getD i 0 < c.getD (i + 1) 0)
theorem asc_of {c : List Nat} (h : ascB c = true) : Asc c := by
  intro i a b ha hb
  obtain ⟨hlt, eb⟩ := List.getElem?_eq_some_iff.mp hb
  have h1 := List.all_eq_true.mp h i (List.mem_range.mpr (by omega))
  have h2 := of_decide_eq_true h1
  rw [List.getD_eq_getElem?_getD, List.getD_eq_getElem?_getD, ha, hb] at h2
  exact h2
theorem lots14_asc : ∀ n, n ≤ 5 → ∀ c ∈ lots n 1 4, ascB c = true := by decide +kernel
theorem lots14_13 : ∀ n, n ≤ 5 → ∀ c ∈ lots n 1 4, c.length < 4 → c ∈ lots n 1 3 := by decide +kernel
theorem lots13_asc : ∀ n, n ≤ 5 → ∀ c ∈ lots n 1 3, ascB c = true := by decide +kernel
theorem lots_pos : ∀ n, n ≤ 5 → 1 ≤ n → 1 ≤ (lots n 1 4).length ∧ (lots n 1 4).length ≤ 100 := by decide +kernel
end E8
set_option Elab.async false
set_option linter.all false
set_option maxRecDepth 100000
/-! D11: the law's own sets of wires and sums. -/
namespace E8
open PySem PySem.Spec PyProof.Rows L2
open PySem.W (dataLe AllAlike Sortable)
theorem noList_ints (ns : List Int) : noList (.tuple (dInts ns)) = true := noLists_all fun d hd => by
  obtain ⟨n, _, rfl⟩ := List.mem_map.mp hd
  rfl
theorem noList_lot (c : List Nat) : noList (lotD c) = true := noList_ints _
theorem noList_pair (c : List Nat) : noList (pairD c) = true := noLists_all fun d hd => by
  rcases List.mem_cons.mp hd with rfl | hd
  · rfl
  · rw [List.mem_singleton.mp hd]
    exact noList_lot c
section
variable {J : It} {n : Nat} {G : Hp → Prop} {Y : Nat → Hp → V → Hp → Prop} {K : PySem.W.Frag}
/-- a comprehension whose elements are data without lists -/
theorem lc_dp (w : Walk J n G Y) {g : TG} {tt : TT} {te : TE} {vs : List Nat} {σ : L2.St} {H1 : Hp} {D : Addr} {Qd : Hp → Prop} (ds : Nat → List PyData) (hn : n ≤ 50000) (hD : H1 D = none) (d0 : ds 0 = [])
    (nl : ∀ i, i ≤ n → ∀ d ∈ ds i, noList d = true) (dl : ∀ i, i < n → (ds i).length ≤ 50000) (hG : ∀ H, Same H1 H → G H)
    (hs : ∀ i x H H', i < n → Same H1 H → Y i H x H' → ∀ (yes : V → Hp → Prop) (no : Hp → Prop), (∀ y d H4, Same H H4 → ds (i + 1) = ds i ++ [d] → Dp K H4 y d → yes y H4) → (∀ H3, Same H H3 → ds (i + 1) = ds i → no H3) →
      g x (wipe σ vs) H' fun σ2 H2 => wipe σ2 vs = wipe σ vs ∧ tt σ2 H2 fun b H3 => if b = true then te σ2 H3 yes else no H3)
    (hd : ∀ H ys, Same H1 H → H D = some (.lst ys) → DpAll K H ys (ds n) → Qd H) :
    ∃ W : Nat → Nat → Hp → Prop, (∃ m, W 0 m (upd H1 D (.lst []))) ∧ ∀ i m H, W i m H →
      (J.stop i H ∧ Qd H) ∨ (J.go i H ∧ ∃ Nx : Hp → Prop, (∀ H', Nx H' → ∃ m', m' < m ∧ W (i + 1) m' H') ∧ ∀ x H', J.yld i H x H' → g x (wipe σ vs) H' fun σ2 H2 => wipe σ2 vs = wipe σ vs ∧ tt σ2 H2 fun b H3 =>
        if b = true then te σ2 H3 fun y H4 => ∃ acc, H4 D = some (.lst acc) ∧ acc.length < sizeLine ∧ Nx (upd H4 D (.lst (acc ++ [y]))) else Nx H3) := by
  refine lc_it w (fun i H => Same H1 H ∧ ∃ ys, H D = some (.lst ys) ∧ DpAll K H ys (ds i)) ⟨Same.new hD, [], upd_same, by rw [d0]; exact .nil⟩ (fun i H _ p => hG H p.1) (fun i x H H' hi p y => ?_) (fun H p => ?_)
  · obtain ⟨p1, ys, p2, p3⟩ := p
    refine hs i x H H' hi p1 y _ _ (fun y d H4 s4 ea dy => ?_) fun H3 s3 ea => ?_
    · refine ⟨ys, s4 _ _ p2, small16' (by rw [DpAll.len p3]; have := dl i hi; omega), Same.mut (Same.trans p1 s4) hD, _, upd_same, ?_⟩
      exact dpAll_mut (s4 _ _ p2) Keep.upd (nl (i + 1) hi) (by rw [ea]; exact dpAll_snoc (DpAll.same s4 _ _ p3) dy)
    · exact ⟨p1.trans s3, ys, s3 _ _ p2, by rw [ea]; exact DpAll.same s3 _ _ p3⟩
  · obtain ⟨p1, ys, p2, p3⟩ := p
    exact hd H ys p1 p2 p3
end
theorem rg_lot (n : Nat) : rgV 0 (n : Int) = lotV (List.range n) := by
  unfold rgV
  rw [← lotV_eq]
  simp
section
variable {P : Program} {w : World} {K : PySem.W.Frag} {mg : Str → Option Value} {base : Heap}
def spLb (K : PySem.W.Frag) : Sp := fun vs H Q _ => ∃ (n : Nat) (a : Addr) (lot : List Nat), vs = [.int n, .ref a] ∧ SqT K H a (lotV lot) ∧ (∀ q ∈ lot, q < n) ∧ n ≤ 100 ∧ lot.length ≤ 1000 ∧ ∀ H', Same H H' → Q (.int (bits n lot : Nat)) H'
theorem ok_law_lot_bits (T : Txt K mg) : FnOk P w K mg base CX0 2 T.law_lot_bits.f T.law_lot_bits.fd ["_law_n_so", "_law_lot_so"] (spLb K) := by
  refine T.law_lot_bits.F.ok sc_law_lot_bits (fun vs H Q E h => ?_) (fun cdv A outer s H vs Q E hr h => ?_)
  · obtain ⟨n, a, lot, rfl, _⟩ := h; rfl
  · obtain ⟨n, a, lot, rfl, hS, hq, hn, hl, k⟩ := h
    refine ⟨_, (pss_one (ps_ret (pe_callB (cr_sum rfl) (by rfl) T.z_sum (by decide +kernel) (pa_cons (pe_lc (own := [("_law_q", 2)]) (g := gName 2) (tt := tYes) rfl sc_law_lot_bits.nd (pi_tup (pv 1)) (blkOk_by (N := ["_law_n_so", "_law_lot_so", "_law_q"]) (sc := defScope s_law_lot_bits) (by decide +kernel)) (fun _ _ _ _ _ => (pg_name (i := 2) sc_law_lot_bits.nd rfl (Or.inl rfl))) (fun _ _ _ _ _ => pts_nil) (fun _ _ _ _ _ => (pe_call (ok_law_wire T) (hr.mono (by decide)) rfl T.law_wire.m T.law_wire.F.kp T.law_wire.b .nil pass0 (pa_cons (pv 0) (pa_cons (pv 2) pa_nil))))) pa_nil)))), ?_⟩
    refine ⟨_, rfl, a, rfl, ⟨_, hS⟩, fun D hD => ?_⟩
    refine lc_pure walk_tup (fun i => ((lot.take i).map fun q => ((wbit n q : Nat) : Int)).map V.int) (by rw [lotV_len]; omega) hD rfl (fun i _ => by simp; omega) (fun H1 e => Same.tup e hS) ?_ ?_
    · rintro i v H1 H2 hi sm ⟨rfl, e1⟩ yes no ky kn
      obtain ⟨q, f, rfl⟩ := lotV_at e1
      obtain ⟨hlt, e2⟩ := List.getElem?_eq_some_iff.mp f
      refine ⟨rfl, _, rfl, _, rfl, n, q, rfl, hq q (List.mem_of_getElem? f), hn, ky _ _ (Same.refl _) ?_⟩
      rw [List.take_succ_eq_append_getElem hlt, e2, List.map_append, List.map_append]
      rfl
    · intro H1 e1 e2
      rw [lotV_len, List.take_length] at e2
      refine ⟨D, _, rfl, SqL.of e2, ?_⟩
      rw [bits_sum]
      exact k H1 e1
theorem ok_law_rest (T : Txt K mg) : FnOk P w K mg base CX0 3 T.law_rest.f T.law_rest.fd ["_law_marks_so", "_law_n_so", "_law_lot_so"] (spRl K) := by
  refine T.law_rest.F.ok sc_law_rest (fun vs H Q E h => ?_) (fun cdv A outer s H vs Q E hr h => ?_)
  · obtain ⟨a, b, ms, n, lot, rfl, _⟩ := h; rfl
  · obtain ⟨a, b, ms, n, lot, rfl, hT, hL, hq, hn, hm, h1, h3, k⟩ := h
    refine ⟨_, (pss_cons (ps_set (i := 3) sc_law_rest.nd rfl (Or.inr rfl) (pe_call (ok_law_lot_bits T) (hr.mono (by decide)) rfl T.law_lot_bits.m T.law_lot_bits.F.kp T.law_lot_bits.b .nil pass0 (pa_cons (pv 1) (pa_cons (pv 2) pa_nil))))
      (pss_one (ps_ret (pe_op op_mod (pe_callB (cr_sum rfl) (by rfl) T.z_sum (by decide +kernel) (pa_cons (pe_lc (own := [("_law_k", 4), ("_law_own", 5)]) (g := gTup K 2 (gCons (gName 4) (gCons (gName 5) (gNil)))) rfl sc_law_rest.nd (pi_enumT rfl T.z_enumerate (pa_cons (pv 0) pa_nil)) (blkOk_by (N := ["_law_marks_so", "_law_n_so", "_law_lot_so", "_law_bits_so", "_law_k", "_law_own"]) (sc := defScope s_law_rest) (by decide +kernel)) (fun _ _ _ _ _ => (pg_tup rfl (pgs_cons (pg_name (i := 4) sc_law_rest.nd rfl (Or.inl rfl)) (pgs_cons (pg_name (i := 5) sc_law_rest.nd rfl (Or.inl rfl)) pgs_nil)))) (fun _ _ _ _ _ => (pts_one (pt_cmpR op_eq (pe_op op_andC (pe_op op_add (pv 4) pe_int) (pv 3)) (pv 3) (nomark _)))) (fun _ _ _ _ _ => (pv 5))) pa_nil)) (pe_ix (r := rIxL K) ix_list (pe_lst (pa_cons pe_int (pa_cons pe_int (pa_cons pe_int pa_nil)))) (pe_op op_sub (pe_callB call_lenC (by rfl) T.z_len (by decide +kernel) (pa_cons (pv 2) pa_nil)) pe_int) (fun _ _ => rfl)))))), ?_⟩
    refine ⟨_, rfl, _, rfl, n, b, lot, rfl, hL, hq, hn, by omega, fun H1 s1 => ?_⟩
    have hT1 := Same.tup s1 hT
    refine ⟨_, rfl, a, _, rfl, hT1, fun D hD => ?_⟩
    refine lc_pure walk_enumT (fun i => (pick (restF (bits n lot)) ms i).map V.int) (by rw [List.length_map]; omega) hD rfl (fun i _ => by rw [List.length_map]; exact pick_le _ _ _) (fun H2 e => Same.tup e hT1) ?_ ?_
    · rintro i v H2 H3 hi sm ⟨T1, b1, b2, rfl, hnn, rfl, e1, e2⟩ yes no ky kn
      obtain ⟨rfl, hi2⟩ := ints_at e2
      cases Option.some.inj e1
      refine ⟨T1, _, rfl, SqT.of upd_same, rfl, _, _, rfl, _, _, rfl, rfl, rfl, ?_⟩
      refine ⟨_, rfl, _, _, rfl, rfl, _, rfl, i + 1, bits n lot, rfl, rfl, _, rfl, rfl, _, rfl, ?_⟩
      have ea := pick_succ (restF (bits n lot)) ms i
      by_cases hz : (i + 1) &&& bits n lot = bits n lot
      · rw [decide_eq_true (show V.int (((i + 1) &&& bits n lot : Nat) : Int) = .int (bits n lot : Nat) by rw [hz])]
        refine ⟨_, rfl, ky _ _ (Same.new hnn) ?_⟩
        rw [ea, show restF (bits n lot) i (ms.getD i 0) = some _ from if_pos hz]
        simp
      · rw [decide_eq_false (show ¬ V.int (((i + 1) &&& bits n lot : Nat) : Int) = .int (bits n lot : Nat) from fun q => hz (Int.ofNat.inj (V.int.inj q)))]
        refine kn _ (Same.new hnn) ?_
        rw [ea, show restF (bits n lot) i (ms.getD i 0) = none from if_neg hz]
        simp
    · intro H2 e1 e2
      rw [List.length_map] at e2
      refine ⟨D, _, rfl, SqL.of e2, by show 3 ≤ sizeLine; decide, fun l hl => ?_⟩
      refine ⟨_, rfl, b, _, rfl, .inr (Same.tup (Same.new hl) (Same.tup e1 (Same.tup s1 hL))), _, _, rfl, rfl, l, _, ((lotV lot).length : Nat) - 1, .int (rmod lot), rfl, rfl, SqL.of upd_same, ?_, ?_⟩
      · rw [lotV_len]
        unfold rmod
        have hh : lot.length = 1 ∨ lot.length = 2 ∨ lot.length = 3 := by omega
        rcases hh with e | e | e <;> rw [e] <;> rfl
      refine ⟨_, _, rfl, rfl, (rmod_pow h1 h3).2, ?_⟩
      show Q (.int ((pick (restF (bits n lot)) ms ms.length).sum % rmod lot)) _
      rw [restF_sum]
      exact k _ ((s1.trans e1).trans (Same.new hl))
def spSub (K : PySem.W.Frag) : Sp := fun vs H Q _ => ∃ (a : Addr) (n : Nat), vs = [.ref a] ∧ SqL K H a (lotV (List.range n)) ∧ n ≤ 5 ∧ ∀ p refs H', Same H H' → H' p = some (.lst refs) → DpAll K H' refs ((subsM (List.range n)).map lotD) → Q (.ref p) H'
theorem ok_law_subsets (T : Txt K mg) : FnOk P w K mg base CX0 1 T.law_subsets.f T.law_subsets.fd ["_law_things_so"] (spSub K) := by
  refine T.law_subsets.F.ok sc_law_subsets (fun vs H Q E h => ?_) (fun cdv A outer s H vs Q E hr h => ?_)
  · obtain ⟨a, n, rfl, _⟩ := h; rfl
  · obtain ⟨a, n, rfl, hS, hn, k⟩ := h
    refine ⟨_, (pss_cons (ps_set (i := 1) sc_law_subsets.nd rfl (Or.inl rfl) (pe_lst (pa_cons (pe_tup pa_nil) pa_nil)))
      (pss_cons (ps_for PassesOwn.never rfl (pi_list (pv 0)) (pg_name (i := 2) sc_law_subsets.nd rfl (Or.inr rfl)) (pss_one (ps_set (i := 1) sc_law_subsets.nd rfl (Or.inl rfl) (pe_op op_cat (pv 1) (pe_lc (own := [("_law_own", 3)]) (g := gName 3) (tt := tYes) rfl sc_law_subsets.nd (pi_list (pv 1)) (blkOk_by (N := ["_law_things_so", "_law_found", "_law_thing_so", "_law_own"]) (sc := defScope s_law_subsets) (by decide +kernel)) (fun _ _ _ _ _ => (pg_name (i := 3) sc_law_subsets.nd rfl (Or.inl rfl))) (fun _ _ _ _ _ => pts_nil) (fun _ _ _ _ _ => (pe_op (r := rCatA K) op_catA (pv 3) (pe_tup (pa_cons (pv 2) pa_nil)))))))))
      (pss_one (ps_ret (pv 1))))), ?_⟩
    refine ⟨by show 0 ≤ sizeLine; omega, fun t ht => ⟨by show 1 ≤ sizeLine; decide, fun f hf => ?_⟩⟩
    have s0 : Same H (upd (upd H t (.tup [])) f (.lst [.ref t])) := (Same.new ht).trans (Same.new hf)
    refine ⟨_, rfl, a, rfl, ⟨_, Same.seq s0 hS⟩, for_list (K := K) (a := a) (xs := lotV (List.range n)) (fun i σ H' => ∃ (p : Addr) (refs : List V) (v2 : Option V), σ = [some (.ref a), some (.ref p), v2, none] ∧ Same H H' ∧ H' p = some (.lst refs) ∧ DpAll K H' refs ((subsM ((List.range n).take i)).map lotD))
      ⟨f, [.ref t], none, rfl, s0, upd_same, .cons (dpLot (c := []) (SqT.of (Same.new hf _ _ upd_same))) .nil⟩ (fun i σ H' _ ⟨_, _, _, _, e, _⟩ => Same.seq e hS) ?_ ?_⟩
    · rintro i x σ H1 hx ⟨p, refs, v2, rfl, s1, hp, hD⟩
      obtain ⟨q, hq, rfl⟩ := lotV_at hx
      have hiN : i < n := by have := (List.getElem?_eq_some_iff.mp hq).1; rwa [List.length_range] at this
      have hln := subs_len n hn i (by omega)
      have hlow := subs_in n hn i (by omega)
      have hsucc := subs_succ hq
      generalize subsM ((List.range n).take i) = cs at hD hln hlow hsucc
      have hrl := DpAll.len hD
      rw [List.length_map] at hrl
      refine ⟨_, rfl, _, rfl, p, rfl, ⟨_, SqL.of hp⟩, fun D hDn => ?_⟩
      refine lc_dp (K := K) walk_list (fun j => (cs.take j).map fun c => lotD (c ++ [q])) (by rw [hrl]; omega) hDn rfl (fun j _ d hd => ?_) (fun j _ => by rw [List.length_map, List.length_take]; omega) (fun H2 e => SqL.of (e _ _ hp)) ?_ ?_
      · obtain ⟨c, _, rfl⟩ := List.mem_map.mp hd
        exact noList_lot _
      · rintro j x H2 H3 hj s2 ⟨rfl, hx2⟩ yes no ky kn
        obtain ⟨d, hd1, hd2⟩ := DpAll.get hD hx2
        rw [List.getElem?_map] at hd1
        cases hc : cs[j]? with
        | none => rw [hc] at hd1; cases hd1
        | some c =>
          rw [hc] at hd1
          cases Option.some.inj hd1
          obtain ⟨b, rfl, hL⟩ := dpLot_inv hd2
          obtain ⟨hlt, e3⟩ := List.getElem?_eq_some_iff.mp hc
          have hL2 := Same.tup s2 hL
          have eds : ((cs.take (j + 1)).map fun c => lotD (c ++ [q])) = ((cs.take j).map fun c => lotD (c ++ [q])) ++ [lotD (c ++ [q])] := by
            rw [List.take_succ_eq_append_getElem hlt, e3, List.map_append]
            rfl
          have hc5 := hlow c (List.mem_of_getElem? hc)
          have ecat : lotV c ++ [V.int q] = lotV (c ++ [q]) := by rw [← lotV_eq, ← lotV_eq, List.map_append]; rfl
          refine ⟨rfl, _, rfl, _, rfl, by show 1 ≤ sizeLine; decide, fun t2 ht2 => ?_⟩
          refine ⟨b, t2, lotV c, [.int q], rfl, rfl, Same.tup (Same.new ht2) hL2, SqT.of upd_same, small16 (by rw [lotV_len]; simp; omega), fun z => ?_, fun _ z => (by cases z), fun _ _ p2 hp2 => ?_⟩
          · refine ky _ (lotD (c ++ [q])) _ (Same.new ht2) eds (dpLot ?_)
            rw [← ecat, z]
            exact SqT.of upd_same
          · refine ky _ (lotD (c ++ [q])) _ ((Same.new ht2).trans (Same.new hp2)) eds (dpLot ?_)
            rw [← ecat]
            exact SqT.of upd_same
      · intro H2 ys s2 hy hdy
        have hyl := DpAll.len hdy
        rw [List.length_map, List.length_take, hrl] at hyl
        refine ⟨p, D, refs, ys, rfl, rfl, s2 _ _ hp, hy, small16 (by omega), fun r hr => ?_⟩
        refine ⟨r, _, _, rfl, (s1.trans s2).trans (Same.new hr), upd_same, ?_⟩
        rw [hsucc, List.map_append, List.map_map]
        refine DpAll.append (DpAll.same (s2.trans (Same.new hr)) _ _ hD) (DpAll.same (Same.new hr) _ _ ?_)
        rw [hrl, List.take_length] at hdy
        exact hdy
    · rintro σ H1 ⟨p, refs, v2, rfl, s1, hp, hD⟩
      rw [lotV_len, List.take_length] at hD
      exact ⟨_, rfl, k p refs H1 s1 hp hD⟩
end
end E8
set_option Elab.async false
set_option linter.all false
set_option maxRecDepth 100000
/-! D12: the law's lots in order, plain marks told, marks added, spans. -/
namespace E8
open PySem PySem.Spec PyProof.Rows L2
open PySem.W (dataLe AllAlike Sortable)
theorem alike_ints : ∀ a b : List Int, PySem.W.alikeAll (dInts a) (dInts b) = true
  | [], _ => by cases ‹List Int› <;> rfl
  | _ :: _, [] => rfl
  | x :: a, y :: b => by
    show (PySem.W.alike (.int x) (.int y) && PySem.W.alikeAll (dInts a) (dInts b)) = true
    rw [alike_ints a b]
    rfl
theorem alike_pairs (cs : List (List Nat)) : AllAlike (cs.map pairD) := by
  intro d hd d' hd'
  obtain ⟨c, _, rfl⟩ := List.mem_map.mp hd
  obtain ⟨c', _, rfl⟩ := List.mem_map.mp hd'
  show (true && (PySem.W.alike (lotD c) (lotD c') && true)) = true
  rw [show PySem.W.alike (lotD c) (lotD c') = true from alike_ints _ _]
  rfl
theorem sortable_pairs (cs : List (List Nat)) : Sortable (cs.map pairD) := .inl fun d hd => by
  obtain ⟨c, _, rfl⟩ := List.mem_map.mp hd
  exact ⟨_, _, rfl⟩
theorem depth_ints (ns : List Int) : (PyData.tuple (dInts ns)).depth = 1 := by
  unfold dInts
  simp [PyData.depth, PySem.W.ke_depthAll]
theorem depth_pair (c : List Nat) : (pairD c).depth ≤ 50 := by
  show max 0 (max (lotD c).depth 0) + 1 ≤ 50
  rw [show (lotD c).depth = 1 from depth_ints _]
  decide
theorem pair_inv {K : PySem.W.Frag} {H : Hp} {v : V} {c : List Nat} (h : Dp K H v (pairD c)) : ∃ a b, v = .ref a ∧ SqT K H a [.int c.length, .ref b] ∧ SqT K H b (lotV c) := by
  cases h with
  | tup hs ha =>
    cases ha with
    | cons h1 ha =>
      cases ha with
      | cons h2 ha =>
        cases ha
        cases h1
        obtain ⟨b, rfl, g⟩ := dpLot_inv h2
        exact ⟨_, b, rfl, hs, g⟩
theorem filter_take {α : Type} {p : α → Bool} {l : List α} {i : Nat} {a : α} (h : l[i]? = some a) : (l.take (i + 1)).filter p = (l.take i).filter p ++ if p a = true then [a] else [] := by
  obtain ⟨hlt, e⟩ := List.getElem?_eq_some_iff.mp h
  rw [List.take_succ_eq_append_getElem hlt, e, List.filter_append]
  congr 1
  by_cases hp : p a = true <;> simp [hp]
section
variable {P : Program} {w : World} {K : PySem.W.Frag} {mg : Str → Option Value} {base : Heap}
def spLl (K : PySem.W.Frag) : Sp := fun vs H Q _ => ∃ (n : Nat) (lo hi : Nat), vs = [.int n, .int lo, .int hi] ∧ n ≤ 5 ∧ sortM n lo hi = lots n lo hi ∧ (lots n lo hi).length ≤ 100 ∧ ∀ p refs H', Same H H' → H p = none → H' p = some (.lst refs) → DpAll K H' refs ((lots n lo hi).map lotD) → Q (.ref p) H'
theorem ok_law_lots (T : Txt K mg) : FnOk P w K mg base CX0 2 T.law_lots.f T.law_lots.fd ["_law_n_so", "_law_least_so", "_law_most_so"] (spLl K) := by
  refine T.law_lots.F.ok sc_law_lots (fun vs H Q E h => ?_) (fun cdv A outer s H vs Q E hr h => ?_)
  · obtain ⟨n, lo, hi, rfl, _⟩ := h; rfl
  · obtain ⟨n, lo, hi, rfl, hn, hsort, hll, k⟩ := h
    have hu := hr.units
    refine ⟨_, (pss_cons (ps_setLc (i := 3) (own := [("_law_own", 4)]) (g := gName 4) rfl sc_law_lots.nd rfl rfl (sw_true rfl rfl rfl (by decide +kernel)) (pi_list (pe_call (ok_law_subsets T) (hr.mono (by decide)) rfl T.law_subsets.m T.law_subsets.F.kp T.law_subsets.b .nil pass0 (pa_cons (pe_listRg rfl rfl T.z_list (prg_1 rfl T.z_range (pv 0))) pa_nil))) (blkOk_by (N := ["_law_n_so", "_law_least_so", "_law_most_so", "_law_found", "_law_own"]) (sc := defScope s_law_lots) (by decide +kernel)) (fun _ _ _ _ _ => (pg_name (i := 4) sc_law_lots.nd rfl (Or.inl rfl))) (fun _ _ _ _ _ => (pts_one (pt_chain op_le op_le (pv 1) (pe_callB (id := "len") (r := rLenC K) call_lenC (by rfl) T.z_len (by decide +kernel) (pa_cons (pv 4) pa_nil)) (pv 2)))) (fun _ _ _ _ _ => (pv 4)))
      (pss_one (ps_ret (pe_lc (own := [("_law_own", 4)]) (g := gName 4) (tt := tYes) rfl sc_law_lots.nd (pi_list (pe_callB (cr_sortedD (Nat.lt_of_le_of_lt (Nat.add_le_add_left (by decide : 60 ≤ 64) _) hu)) (by rfl) T.z_sorted (by decide +kernel) (pa_cons (pe_lc (own := [("_law_own", 4)]) (g := gName 4) (tt := tYes) rfl sc_law_lots.nd (pi_list (pv 3)) (blkOk_by (N := ["_law_n_so", "_law_least_so", "_law_most_so", "_law_found", "_law_own"]) (sc := defScope s_law_lots) (by decide +kernel)) (fun _ _ _ _ _ => (pg_name (i := 4) sc_law_lots.nd rfl (Or.inl rfl))) (fun _ _ _ _ _ => pts_nil) (fun _ _ _ _ _ => (pe_tup (pa_cons (pe_callB (id := "len") (r := rLenC K) call_lenC (by rfl) T.z_len (by decide +kernel) (pa_cons (pv 4) pa_nil)) (pa_cons (pv 4) pa_nil))))) pa_nil))) (blkOk_by (N := ["_law_n_so", "_law_least_so", "_law_most_so", "_law_found", "_law_own"]) (sc := defScope s_law_lots) (by decide +kernel)) (fun _ _ _ _ _ => (pg_name (i := 4) sc_law_lots.nd rfl (Or.inl rfl))) (fun _ _ _ _ _ => pts_nil) (fun _ _ _ _ _ => (pe_ix (r := rIxT K) ix_tup (pv 4) pe_int (fun _ _ => rfl))))))), ?_⟩
    refine ⟨_, rfl, _, rfl, by refine .of_le ?_ ?_ ?_ ?_ <;> omega, fun r hr0 => ?_⟩
    rw [rg_lot]
    refine ⟨r, n, rfl, SqL.of upd_same, hn, fun p refs H1 s1 hp hD => ?_⟩
    have s01 : Same H H1 := (Same.new hr0).trans s1
    have hsl := subs_len n hn n (Nat.le_refl _)
    rw [show (List.range n).take n = List.range n by rw [List.take_of_length_le (by rw [List.length_range]; omega)]] at hsl
    have hs5 := subs_low n hn
    have hsm : (((subsM (List.range n)).filter (inLot lo hi)).mergeSort (dataLe false pairD)) = lots n lo hi := hsort
    generalize subsM (List.range n) = cs at hD hsl hs5 hsm
    have hrl := DpAll.len hD
    rw [List.length_map] at hrl
    refine ⟨p, rfl, ⟨_, SqL.of hp⟩, fun D hDn => ?_⟩
    refine lc_dp (K := K) walk_list (fun j => ((cs.take j).filter (inLot lo hi)).map lotD) (by rw [hrl]; omega) hDn rfl (fun j _ d hd => ?_) (fun j _ => ?_) (fun H2 e => SqL.of (e _ _ hp)) ?_ ?_
    · obtain ⟨c, _, rfl⟩ := List.mem_map.mp hd
      exact noList_lot _
    · rw [List.length_map]
      exact Nat.le_trans (List.length_filter_le _ _) (by rw [List.length_take]; omega)
    · rintro j x H2 H3 hj s2 ⟨rfl, hx2⟩ yes no ky kn
      obtain ⟨d, hd1, hd2⟩ := DpAll.get hD hx2
      rw [List.getElem?_map] at hd1
      cases hc : cs[j]? with
      | none => rw [hc] at hd1; cases hd1
      | some c =>
        rw [hc] at hd1
        cases Option.some.inj hd1
        obtain ⟨b, rfl, hL⟩ := dpLot_inv hd2
        have hL2 := Same.tup s2 hL
        have ef := filter_take (p := inLot lo hi) hc
        refine ⟨rfl, _, rfl, _, rfl, b, _, rfl, .inr hL2, _, _, rfl, rfl, _, rfl, ?_⟩
        by_cases h1 : lo ≤ c.length
        · rw [decide_eq_true (show ((lo : Nat) : Int) ≤ ((lotV c).length : Nat) by rw [lotV_len]; omega)]
          refine ⟨_, rfl, _, _, rfl, rfl, _, rfl, ?_⟩
          by_cases h2 : c.length ≤ hi
          · rw [decide_eq_true (show ((lotV c).length : Nat) ≤ ((hi : Nat) : Int) by rw [lotV_len]; omega)]
            refine ⟨_, rfl, ky _ (lotD c) _ (Same.refl _) ?_ (dpLot hL2)⟩
            rw [ef, if_pos (show inLot lo hi c = true from decide_eq_true ⟨h1, h2⟩), List.map_append]
            rfl
          · rw [decide_eq_false (show ¬ ((lotV c).length : Nat) ≤ ((hi : Nat) : Int) by rw [lotV_len]; omega)]
            refine kn _ (Same.refl _) ?_
            rw [ef, if_neg (show ¬ inLot lo hi c = true from fun z => h2 (of_decide_eq_true z).2), List.append_nil]
        · rw [decide_eq_false (show ¬ ((lo : Nat) : Int) ≤ ((lotV c).length : Nat) by rw [lotV_len]; omega)]
          refine ⟨_, rfl, kn _ (Same.refl _) ?_⟩
          rw [ef, if_neg (show ¬ inLot lo hi c = true from fun z => h1 (of_decide_eq_true z).1), List.append_nil]
    · intro H2 ys s2 hy hdy
      rw [hrl, List.take_length] at hdy
      have hfl : (cs.filter (inLot lo hi)).length ≤ 32 := Nat.le_trans (List.length_filter_le _ _) (by omega)
      have hf5 : ∀ c ∈ cs.filter (inLot lo hi), c.length ≤ 5 := fun c hc => hs5 c (List.mem_filter.mp hc).1
      generalize cs.filter (inLot lo hi) = fs at hdy hsm hfl hf5
      have hyl := DpAll.len hdy
      rw [List.length_map] at hyl
      -- the pairs
      refine ⟨_, rfl, D, rfl, ⟨_, SqL.of hy⟩, fun D2 hD2 => ?_⟩
      refine lc_dp (K := K) walk_list (fun j => (fs.take j).map pairD) (by rw [hyl]; omega) hD2 rfl (fun j _ d hd => ?_) (fun j _ => by rw [List.length_map, List.length_take]; omega) (fun H3 e => SqL.of (e _ _ hy)) ?_ ?_
      · obtain ⟨c, _, rfl⟩ := List.mem_map.mp hd
        exact noList_pair _
      · rintro j x H3 H4 hj s3 ⟨rfl, hx2⟩ yes no ky kn
        obtain ⟨d, hd1, hd2⟩ := DpAll.get hdy hx2
        rw [List.getElem?_map] at hd1
        cases hc : fs[j]? with
        | none => rw [hc] at hd1; cases hd1
        | some c =>
          rw [hc] at hd1
          cases Option.some.inj hd1
          obtain ⟨b, rfl, hL⟩ := dpLot_inv hd2
          obtain ⟨hlt, e3⟩ := List.getElem?_eq_some_iff.mp hc
          have hL3 := Same.tup s3 hL
          refine ⟨rfl, _, rfl, b, _, rfl, .inr hL3, _, rfl, by show 2 ≤ sizeLine; decide, fun t ht => ky _ (pairD c) _ (Same.new ht) ?_ ?_⟩
          · rw [List.take_succ_eq_append_getElem hlt, e3, List.map_append]
            rfl
          · rw [lotV_len]
            exact .tup (SqT.of upd_same) (.cons (.int _) (.cons (dpLot (Same.tup (Same.new ht) hL3)) .nil))
      · intro H3 zs s3 hz hdz
        rw [hyl, List.take_length] at hdz
        refine ⟨D2, zs, _, rfl, SqL.of hz, hdz, alike_pairs _, sortable_pairs _, fun d hd => ?_, fun us q hq hdu => ?_⟩
        · obtain ⟨c, _, rfl⟩ := List.mem_map.mp hd
          exact depth_pair c
        have em : (fs.map pairD).mergeSort (dataLe false id) = (lots n lo hi).map pairD := by
          rw [← hsm, PySem.W.sort_maps (r := dataLe false pairD) (s := dataLe false id) pairD (fun _ _ _ _ => rfl)]
        rw [em] at hdu
        have hul := DpAll.len hdu
        rw [List.length_map] at hul
        have hdu2 := DpAll.same (Same.new (o := .lst us) hq) _ _ hdu
        refine ⟨q, rfl, ⟨_, SqL.of upd_same⟩, fun D3 hD3 => ?_⟩
        refine lc_dp (K := K) walk_list (fun j => ((lots n lo hi).take j).map lotD) (by rw [hul]; omega) hD3 rfl (fun j _ d hd => ?_) (fun j _ => by rw [List.length_map, List.length_take]; omega) (fun H4 e => SqL.of (e _ _ upd_same)) ?_ ?_
        · obtain ⟨c, _, rfl⟩ := List.mem_map.mp hd
          exact noList_lot _
        · rintro j x H4 H5 hj s4 ⟨rfl, hx2⟩ yes no ky kn
          obtain ⟨d, hd1, hd2⟩ := DpAll.get hdu2 hx2
          rw [List.getElem?_map] at hd1
          cases hc : (lots n lo hi)[j]? with
          | none => rw [hc] at hd1; cases hd1
          | some c =>
            rw [hc] at hd1
            cases Option.some.inj hd1
            obtain ⟨a, b, rfl, hA, hB⟩ := pair_inv hd2
            obtain ⟨hlt, e3⟩ := List.getElem?_eq_some_iff.mp hc
            refine ⟨rfl, _, rfl, a, _, 1, .ref b, rfl, rfl, Same.tup s4 hA, rfl, ky _ (lotD c) _ (Same.refl _) ?_ (dpLot (Same.tup s4 hB))⟩
            rw [List.take_succ_eq_append_getElem hlt, e3, List.map_append]
            rfl
        · intro H4 rs s4 hr4 hdr
          rw [hul, List.take_length] at hdr
          have sD : Same H (upd H3 q (.lst us)) := ((s01.trans s2).trans s3).trans (Same.new hq)
          exact k D3 rs H4 (sD.trans s4) (Same.free sD hD3) hr4 hdr
end
end E8
set_option Elab.async false
set_option linter.all false
set_option maxRecDepth 100000
/-! D13: plain marks told, marks added, spans. -/
namespace E8
open PySem PySem.Spec PyProof.Rows L2
def topKv : List (Key × V) := [(.inl 1, .int 8), (.inl 2, .int 4), (.inl 3, .int 2)]
theorem top_get : ∀ b, b < 32 → (valV (mergeK [] topKv) (.inl ((onesN b : Nat) : Int))).getD (.int 1) = .int (plainTop b) := by decide +kernel
def addM (xs ys : List Int) (k : Int) : List Int := List.zipWith (fun x y => (x + k * y) % 8) xs ys
theorem addM_at {xs ys : List Int} {k : Int} {i : Nat} (h1 : i < xs.length) (h2 : i < ys.length) : (addM xs ys k)[i]? = some ((xs.getD i 0 + k * ys.getD i 0) % 8) := by
  unfold addM
  rw [List.getElem?_zipWith, List.getElem?_eq_getElem h1, List.getElem?_eq_getElem h2, List.getD_eq_getElem?_getD, List.getD_eq_getElem?_getD, List.getElem?_eq_getElem h1, List.getElem?_eq_getElem h2]
  rfl
theorem addM_len {xs ys : List Int} {k : Int} (h : xs.length = ys.length) : (addM xs ys k).length = xs.length := by
  unfold addM
  rw [List.length_zipWith, h, Nat.min_self]
def spanM (rows : List Nat) : List Nat := rows.foldl (fun f r => f ++ f.map (· ^^^ r)) [0]
theorem span_succ {l : List Nat} {i q : Nat} (h : l[i]? = some q) : spanM (l.take (i + 1)) = spanM (l.take i) ++ (spanM (l.take i)).map (· ^^^ q) := by
  obtain ⟨hlt, e⟩ := List.getElem?_eq_some_iff.mp h
  unfold spanM
  rw [List.take_succ_eq_append_getElem hlt, e, List.foldl_append]
  rfl
theorem span_fold_len : ∀ (rows f : List Nat), (rows.foldl (fun f r => f ++ f.map (· ^^^ r)) f).length = f.length * 2 ^ rows.length
  | [], f => by simp
  | r :: rows, f => by
    rw [List.foldl_cons, span_fold_len rows, List.length_append, List.length_map, List.length_cons, Nat.pow_succ]
    generalize 2 ^ rows.length = z
    rw [Nat.add_mul, ← Nat.mul_assoc, Nat.mul_two]
theorem span_len (rows : List Nat) : (spanM rows).length = 2 ^ rows.length := by
  unfold spanM
  rw [span_fold_len]
  simp
section
variable {P : Program} {w : World} {K : PySem.W.Frag} {mg : Str → Option Value} {base : Heap}
def spIp (K : PySem.W.Frag) : Sp := fun vs H Q _ => ∃ (a : Addr) (ms : List Int), vs = [.ref a] ∧ SqT K H a (ms.map V.int) ∧ ms.length ≤ 31 ∧ (∀ j u, ms[j]? = some u → u < plainTop (j + 1)) ∧ ∀ H', Same H H' → Q (.bl true) H'
theorem ok_law_is_plain (T : Txt K mg) : FnOk P w K mg base CX0 2 T.law_is_plain.f T.law_is_plain.fd ["_law_own"] (spIp K) := by
  refine T.law_is_plain.F.ok sc_law_is_plain (fun vs H Q E h => ?_) (fun cdv A outer s H vs Q E hr h => ?_)
  · obtain ⟨a, ms, rfl, _⟩ := h; rfl
  · obtain ⟨a, ms, rfl, hT, hl, hp, k⟩ := h
    refine ⟨_, (pss_cons (ps_for PassesOwn.never rfl (pi_enumT rfl T.z_enumerate (pa_cons (pv 0) pa_nil)) (pg_tup rfl (pgs_cons (pg_name (i := 1) sc_law_is_plain.nd rfl (Or.inl rfl)) (pgs_cons (pg_name (i := 2) sc_law_is_plain.nd rfl (Or.inl rfl)) pgs_nil))) (pss_cons (ps_set (i := 3) sc_law_is_plain.nd rfl (Or.inl rfl) (pe_call (ok_law_ones T) (hr.mono (by decide)) rfl T.law_ones.m T.law_ones.F.kp T.law_ones.b .nil pass0 (pa_cons (pe_op op_add (pv 1) pe_int) pa_nil)))
      (pss_one (ps_if (pt_cmpR op_ge (pv 2) (pe_dget2 (hu_of hr) (pe_disp (pps_cons pe_int pe_int (pps_cons pe_int pe_int (pps_cons pe_int pe_int pps_nil))) (by rfl) (by rfl) (fun z => by cases z) (by decide)) (pv 3) pe_int ⟨rfl, rfl, rfl, rfl⟩) (nomark _)) (pss_one (ps_ret pe_bl)) pss_nil))))
      (pss_one (ps_ret pe_bl))), ?_⟩
    refine ⟨_, rfl, a, _, rfl, hT, for_it walk_enumT (fun i σ H' => ∃ v1 v2 v3 : Option V, σ = [some (.ref a), v1, v2, v3] ∧ Same H H') ⟨none, none, none, rfl, Same.refl _⟩ (fun i σ H' _ ⟨_, _, _, _, e⟩ => Same.tup e hT) ?_ ?_⟩
    · rintro i x σ H1 H2 hi ⟨v1, v2, v3, rfl, s1⟩ ⟨T1, b1, b2, rfl, hnn, rfl, e1, e2⟩
      obtain ⟨rfl, hi2⟩ := ints_at e2
      cases Option.some.inj e1
      have hu := hp i (ms.getD i 0) (by rw [List.getD_eq_getElem?_getD, List.getElem?_eq_getElem hi2]; rfl)
      refine ⟨T1, _, rfl, SqT.of upd_same, rfl, _, _, rfl, _, _, rfl, rfl, ?_⟩
      refine ⟨_, rfl, _, _, rfl, rfl, i + 1, rfl, by omega, ?_⟩
      refine ⟨_, rfl, fun p hp1 => ⟨upd_same, topKv, rfl, by decide, ?_⟩⟩
      have key := top_get (i + 1) (by omega)
      refine ⟨p, rfl, .inl ⟨_, .inl upd_same⟩, _, rfl, _, .inl ⟨_, .inl ((onesN (i + 1) : Nat) : Int), .inl upd_same, rfl, rfl⟩, ms.getD i 0, plainTop (i + 1), rfl, key, _, rfl, ?_⟩
      rw [decide_eq_false (show ¬ plainTop (i + 1) ≤ ms.getD i 0 by omega)]
      refine ⟨_, _, _, rfl, ?_⟩
      exact fun b o e => by
        have e3 := Same.new (o := .tup [.int i, .int (ms.getD i 0)]) hnn _ _ (s1 _ _ e)
        have n1 : b ≠ p := ne_of_none e3 hp1
        rw [upd_ne n1, upd_ne n1]
        exact e3
    · rintro σ H1 ⟨v1, v2, v3, rfl, s1⟩
      exact k H1 s1
def spAdd (K : PySem.W.Frag) : Sp := fun vs H Q _ => ∃ (a b : Addr) (xs ys : List Int) (n : Int), vs = [.ref a, .ref b, .int n] ∧ SqT K H a (xs.map V.int) ∧ SqT K H b (ys.map V.int) ∧ xs.length = ys.length ∧ xs.length ≤ 1000 ∧ 0 ≤ n ∧ n ≤ 100 ∧
  ∀ p H', Same H H' → SqT K H' p ((addM xs ys n).map V.int) → Q (.ref p) H'
theorem ok_law_added (T : Txt K mg) : FnOk P w K mg base CX0 1 T.law_added.f T.law_added.fd ["_law_one_so", "_law_other_so", "_law_times_so"] (spAdd K) := by
  refine T.law_added.F.ok sc_law_added (fun vs H Q E h => ?_) (fun cdv A outer s H vs Q E hr h => ?_)
  · obtain ⟨a, b, xs, ys, n, rfl, _⟩ := h; rfl
  · obtain ⟨a, b, xs, ys, n, rfl, hA, hB, hl, hl2, n0, n1, k⟩ := h
    refine ⟨_, (pss_one (ps_ret (pe_callTy call_tuple_of (by rfl) T.z_tuple (by decide +kernel) (pa_cons (pe_lc (own := [("_law_own", 3), ("_law_its", 4)]) (g := gTup K 2 (gCons (gName 3) (gCons (gName 4) (gNil)))) (tt := tYes) rfl sc_law_added.nd (RZ.pi_zipA rfl T.z_zip (pa_cons (pv 0) (pa_cons (pv 1) pa_nil))) (blkOk_by (N := ["_law_one_so", "_law_other_so", "_law_times_so", "_law_own", "_law_its"]) (sc := defScope s_law_added) (by decide +kernel)) (fun _ _ _ _ _ => (pg_tup rfl (pgs_cons (pg_name (i := 3) sc_law_added.nd rfl (Or.inl rfl)) (pgs_cons (pg_name (i := 4) sc_law_added.nd rfl (Or.inl rfl)) pgs_nil)))) (fun _ _ _ _ _ => pts_nil) (fun _ _ _ _ _ => (pe_op op_mod (pe_op op_add (pv 3) (pe_op op_mul (pv 2) (pv 4))) pe_int))) pa_nil)))), ?_⟩
    refine ⟨_, rfl, _, rfl, a, b, xs.map V.int, ys.map V.int, rfl, .inr ⟨hA, hB, fun D hD => ?_⟩⟩
    have hn : xs.length = min (xs.map V.int).length (ys.map V.int).length := by rw [List.length_map, List.length_map]; omega
    have hal := addM_len (k := n) hl
    refine lc_pure (n := xs.length) (walk_zipT hn) (fun i => ((addM xs ys n).take i).map V.int) (by omega) hD rfl (fun i _ => by rw [List.length_map, List.length_take]; omega) (fun H1 e => ⟨Same.tup e hA, Same.tup e hB⟩) ?_ ?_
    · rintro i v H1 H2 hi sm ⟨T1, b1, b2, rfl, hnn, rfl, e1, e2⟩ yes no ky kn
      obtain ⟨rfl, i1⟩ := ints_at e1
      obtain ⟨rfl, i2⟩ := ints_at e2
      refine ⟨T1, _, rfl, SqT.of upd_same, rfl, _, _, rfl, _, _, rfl, rfl, rfl, ?_⟩
      refine ⟨_, rfl, _, rfl, _, rfl, _, _, rfl, rfl, .inl ⟨by omega, by omega⟩, _, _, rfl, rfl, _, _, rfl, rfl, (by show (0 : Int) < 8; decide), ky _ _ (Same.new hnn) ?_⟩
      obtain ⟨hlt, e3⟩ := List.getElem?_eq_some_iff.mp (addM_at (k := n) i1 i2)
      rw [List.take_succ_eq_append_getElem hlt, e3, List.map_append]
      rfl
    · intro H1 e1 e2
      rw [← hal, List.take_length] at e2
      exact ⟨D, _, rfl, .inl ⟨SqL.of e2, fun p hp => k p _ (e1.trans (Same.new hp)) (SqT.of upd_same)⟩⟩
def spSpan (K : PySem.W.Frag) : Sp := fun vs H Q _ => ∃ (a : Addr) (rows : List Nat), vs = [.ref a] ∧ SqL K H a (lotV rows) ∧ rows.length ≤ 5 ∧ ∀ p H', Same H H' → H' p = some (.lst (lotV (spanM rows))) → Q (.ref p) H'
theorem ok_law_span (T : Txt K mg) : FnOk P w K mg base CX0 1 T.law_span.f T.law_span.fd ["_law_rows_so"] (spSpan K) := by
  refine T.law_span.F.ok sc_law_span (fun vs H Q E h => ?_) (fun cdv A outer s H vs Q E hr h => ?_)
  · obtain ⟨a, rows, rfl, _⟩ := h; rfl
  · obtain ⟨a, rows, rfl, hS, hl, k⟩ := h
    refine ⟨_, (pss_cons (ps_set (i := 1) sc_law_span.nd rfl (Or.inl rfl) (pe_lst (pa_cons pe_int pa_nil)))
      (pss_cons (ps_for PassesOwn.never rfl (pi_list (pv 0)) (pg_name (i := 2) sc_law_span.nd rfl (Or.inr rfl)) (pss_one (ps_set (i := 1) sc_law_span.nd rfl (Or.inl rfl) (pe_op op_cat (pv 1) (pe_lc (own := [("_law_bit", 3)]) (g := gName 3) (tt := tYes) rfl sc_law_span.nd (pi_list (pv 1)) (blkOk_by (N := ["_law_rows_so", "_law_found", "_law_own", "_law_bit"]) (sc := defScope s_law_span) (by decide +kernel)) (fun _ _ _ _ _ => (pg_name (i := 3) sc_law_span.nd rfl (Or.inl rfl))) (fun _ _ _ _ _ => pts_nil) (fun _ _ _ _ _ => (pe_op op_xorC (pv 3) (pv 2))))))))
      (pss_one (ps_ret (pv 1))))), ?_⟩
    refine ⟨by show 1 ≤ sizeLine; decide, fun f hf => ?_⟩
    have s0 : Same H (upd H f (.lst [.int 0])) := Same.new hf
    refine ⟨_, rfl, a, rfl, ⟨_, Same.seq s0 hS⟩, for_list (K := K) (a := a) (xs := lotV rows) (fun i σ H' => ∃ (p : Addr) (v2 : Option V), σ = [some (.ref a), some (.ref p), v2, none] ∧ Same H H' ∧ H' p = some (.lst (lotV (spanM (rows.take i)))))
      ⟨f, none, rfl, s0, upd_same⟩ (fun i σ H' _ ⟨_, _, _, e, _⟩ => Same.seq e hS) ?_ ?_⟩
    · rintro i x σ H1 hx ⟨p, v2, rfl, s1, hp⟩
      obtain ⟨q, hq, rfl⟩ := lotV_at hx
      have hiN := (List.getElem?_eq_some_iff.mp hq).1
      have hln := span_len (rows.take i)
      have hp5 : 2 ^ (rows.take i).length ≤ 2 ^ 5 := Nat.pow_le_pow_right (by decide) (by rw [List.length_take]; omega)
      have hsucc := span_succ hq
      generalize spanM (rows.take i) = cs at hp hln hsucc
      refine ⟨_, rfl, _, rfl, p, rfl, ⟨_, SqL.of hp⟩, fun D hDn => ?_⟩
      refine lc_pure walk_list (fun j => lotV ((cs.take j).map (· ^^^ q))) (by rw [lotV_len]; omega) hDn rfl (fun j _ => by rw [lotV_len, List.length_map, List.length_take]; omega) (fun H2 e => SqL.of (e _ _ hp)) ?_ ?_
      · rintro j x H2 H3 hj s2 ⟨rfl, hx2⟩ yes no ky kn
        obtain ⟨c, hc, rfl⟩ := lotV_at hx2
        obtain ⟨hlt, e3⟩ := List.getElem?_eq_some_iff.mp hc
        refine ⟨rfl, _, rfl, _, rfl, c, q, rfl, rfl, ky _ _ (Same.refl _) ?_⟩
        rw [List.take_succ_eq_append_getElem hlt, e3, List.map_append, ← lotV_eq, ← lotV_eq, List.map_append]
        rfl
      · intro H2 s2 hy
        rw [lotV_len, List.take_length] at hy
        refine ⟨p, D, _, _, rfl, rfl, s2 _ _ hp, hy, small16 (by rw [lotV_len, lotV_len, List.length_map]; omega), fun r hr => ?_⟩
        refine ⟨r, _, rfl, (s1.trans s2).trans (Same.new hr), ?_⟩
        rw [hsucc, upd_same, ← lotV_eq, ← lotV_eq, ← lotV_eq, List.map_append]
    · rintro σ H1 ⟨p, v2, rfl, s1, hp⟩
      rw [lotV_len, List.take_length] at hp
      exact ⟨_, rfl, k p H1 s1 hp⟩
end
end E8
set_option Elab.async false
set_option linter.all false
set_option maxRecDepth 100000
/-! EM3: the plain law, part 3: spans of rows, marks that turn nothing, marks added. -/
namespace E8
/-! ### rows, none of them the sum of others -/
def inSpan : List Nat → Nat → Bool
  | [], v => decide (v = 0)
  | r :: rs, v => inSpan rs v || inSpan rs (v ^^^ r)
def Ind : List Nat → Bool
  | [] => true
  | r :: rs => !inSpan rs r && Ind rs
theorem xor_right_comm (a b c : Nat) : a ^^^ b ^^^ c = a ^^^ c ^^^ b := by
  rw [Nat.xor_assoc, Nat.xor_assoc, Nat.xor_comm b c]
theorem xor_back (a b : Nat) : a ^^^ b ^^^ b = a := by
  rw [Nat.xor_assoc, Nat.xor_self, Nat.xor_zero]
theorem inSpan_perm {l m : List Nat} (h : l.Perm m) : ∀ v, inSpan l v = inSpan m v := by
  induction h with
  | nil => exact fun _ => rfl
  | cons x _ ih => intro v; simp only [inSpan, ih]
  | swap x y l =>
    intro v
    simp only [inSpan]
    rw [xor_right_comm v y x]
    cases inSpan l v <;> cases inSpan l (v ^^^ x) <;> cases inSpan l (v ^^^ y) <;> rfl
  | trans _ _ ih1 ih2 => exact fun v => (ih1 v).trans (ih2 v)
theorem Ind_perm {l m : List Nat} (h : l.Perm m) : Ind l = Ind m := by
  induction h with
  | nil => rfl
  | cons x p ih => simp only [Ind, ih, inSpan_perm p]
  | swap x y l =>
    simp only [Ind, inSpan]
    rw [Nat.xor_comm x y]
    cases inSpan l x <;> cases inSpan l y <;> cases inSpan l (y ^^^ x) <;> cases Ind l <;> rfl
  | trans _ _ ih1 ih2 => exact ih1.trans ih2
theorem Ind_drop : ∀ (l m : List Nat), Ind (l ++ m) = true → Ind m = true
  | [], _, h => h
  | r :: l, m, h => by
    rw [List.cons_append, Ind, Bool.and_eq_true] at h
    exact Ind_drop l m h.2
theorem Ind_part {l m all : List Nat} (p : (l ++ m).Perm all) (h : Ind all = true) : Ind l = true := by
  refine Ind_drop m l ?_
  rw [← h]
  exact Ind_perm (List.perm_append_comm.trans p)
theorem set_perm {α : Type} : ∀ (l : List α) (i : Nat) (z : α), i < l.length → (l.set i z).Perm (z :: l.eraseIdx i)
  | [], _, _, h => by cases h
  | _ :: _, 0, _, _ => List.Perm.refl _
  | x :: l, i + 1, z, h => by
    have ih := set_perm l i z (Nat.lt_of_succ_lt_succ h)
    exact (List.Perm.cons x ih).trans (List.Perm.swap _ _ _)
/-- a row takes up another -/
theorem Ind_op {l : List Nat} {i j : Nat} (hi : i < l.length) (hj : j < l.length) (hij : i ≠ j) (h : Ind l = true) : Ind (l.set i (l[i] ^^^ l[j])) = true := by
  have hj2 : ∃ k, ∃ hk : k < (l.eraseIdx i).length, (l.eraseIdx i)[k] = l[j] := by
    have hel : (l.eraseIdx i).length = l.length - 1 := List.length_eraseIdx_of_lt hi
    by_cases hlt : j < i
    · refine ⟨j, by omega, ?_⟩
      rw [List.getElem_eraseIdx_of_lt]
      exact hlt
    · refine ⟨j - 1, by omega, ?_⟩
      rw [List.getElem_eraseIdx_of_ge]
      · congr 1
        omega
      · omega
  obtain ⟨k, hk, ek⟩ := hj2
  have p1 : (l[i] :: l[j] :: (l.eraseIdx i).eraseIdx k).Perm l := by
    rw [← ek]
    exact (List.Perm.cons _ (perm_erase _ k hk)).trans (perm_erase l i hi)
  have p2 : (l.set i (l[i] ^^^ l[j])).Perm ((l[i] ^^^ l[j]) :: l[j] :: (l.eraseIdx i).eraseIdx k) := by
    rw [← ek]
    exact (set_perm l i _ hi).trans (List.Perm.cons _ (perm_erase _ k hk).symm)
  rw [Ind_perm p2]
  rw [← Ind_perm p1] at h
  generalize (l.eraseIdx i).eraseIdx k = r at h
  simp only [Ind, inSpan] at h ⊢
  rw [xor_back]
  revert h
  cases inSpan r l[i] <;> cases inSpan r (l[i] ^^^ l[j]) <;> cases inSpan r l[j] <;> cases Ind r <;> simp
/-! ### the span, in order -/
theorem span_mem : ∀ (rows f : List Nat) (v : Nat), v ∈ rows.foldl (fun f r => f ++ f.map (· ^^^ r)) f → ∃ u ∈ f, inSpan rows (v ^^^ u) = true
  | [], f, v, h => ⟨v, h, by rw [Nat.xor_self]; rfl⟩
  | r :: rows, f, v, h => by
    obtain ⟨u, hu, e⟩ := span_mem rows _ v h
    rcases List.mem_append.mp hu with hu | hu
    · exact ⟨u, hu, by rw [inSpan, e]; rfl⟩
    · obtain ⟨u', hu', rfl⟩ := List.mem_map.mp hu
      refine ⟨u', hu', ?_⟩
      rw [inSpan, Nat.xor_assoc, e, Bool.or_true]
theorem spanM_mem {rows : List Nat} {v : Nat} (h : v ∈ spanM rows) : inSpan rows v = true := by
  obtain ⟨u, hu, e⟩ := span_mem rows [0] v h
  rw [List.mem_singleton.mp hu, Nat.xor_zero] at e
  exact e
theorem spanM_snoc (rows : List Nat) (r : Nat) : spanM (rows ++ [r]) = spanM rows ++ (spanM rows).map (· ^^^ r) := by
  unfold spanM
  rw [List.foldl_append]
  rfl
theorem spanM_head : ∀ rows : List Nat, ∃ t, spanM rows = 0 :: t := fun rows => by
  have key : ∀ (rows f : List Nat), (∃ t, f = 0 :: t) → ∃ t, rows.foldl (fun f r => f ++ f.map (· ^^^ r)) f = 0 :: t := by
    intro rows
    induction rows with
    | nil => exact fun f h => h
    | cons r rows ih =>
      rintro f ⟨t, rfl⟩
      exact ih _ ⟨t ++ (0 :: t).map (· ^^^ r), rfl⟩
  exact key rows [0] ⟨[], rfl⟩
/-- the rest of the span has no 0 in it -/
theorem span_tail : ∀ (k : Nat) (rows : List Nat), rows.length = k → Ind rows = true → ∀ v ∈ (spanM rows).tail, v ≠ 0
  | 0, rows, hk, _, v, hv => by
    rw [List.eq_nil_of_length_eq_zero hk] at hv
    cases hv
  | k + 1, rows, hk, hI, v, hv => by
    have hne : rows ≠ [] := fun z => by rw [z] at hk; cases hk
    have e := List.dropLast_concat_getLast hne
    generalize rows.dropLast = rs at e
    generalize rows.getLast hne = r at e
    subst e
    have hl : rs.length = k := by simpa using hk
    have hI2 : Ind (r :: rs) = true := by
      rw [← hI]
      exact Ind_perm (List.perm_append_comm (l₁ := [r]) (l₂ := rs))
    rw [Ind, Bool.and_eq_true] at hI2
    obtain ⟨t, et⟩ := spanM_head rs
    have ih := span_tail k rs hl hI2.2
    rw [spanM_snoc, et] at hv
    rw [et] at ih
    rcases List.mem_append.mp (show v ∈ t ++ (0 :: t).map (· ^^^ r) from hv) with h | h
    · exact ih v h
    · obtain ⟨u, hu, rfl⟩ := List.mem_map.mp h
      intro z
      have e2 : u = r := by
        have := congrArg (· ^^^ r) z
        simp only [xor_back, Nat.zero_xor] at this
        exact this
      subst e2
      have hm : u ∈ spanM rs := by rw [et]; exact hu
      have h2 := hI2.1
      rw [spanM_mem hm] at h2
      cases h2
theorem span_lt {n : Nat} : ∀ (rows f : List Nat), (∀ r ∈ rows, r < 2 ^ n) → (∀ r ∈ f, r < 2 ^ n) → ∀ v ∈ rows.foldl (fun f r => f ++ f.map (· ^^^ r)) f, v < 2 ^ n
  | [], _, _, hf, v, hv => hf v hv
  | r :: rows, f, hr, hf, v, hv => by
    refine span_lt rows _ (fun q hq => hr q (List.mem_cons_of_mem _ hq)) (fun q hq => ?_) v hv
    rcases List.mem_append.mp hq with h | h
    · exact hf q h
    · obtain ⟨u, hu, rfl⟩ := List.mem_map.mp h
      exact Nat.xor_lt_two_pow (hf u hu) (hr r List.mem_cons_self)
/-! ### parities over a span -/
theorem fold_xor : ∀ c, c < 32 → ∀ d, d < 32 → fold8 (c ^^^ d) = (fold8 c + fold8 d) % 2 := by decide +kernel
theorem par_xor {v r x : Nat} (hx : x < 32) : par (v ^^^ r) x = (par v x + par r x) % 2 := by
  unfold par
  rw [Nat.and_xor_distrib_right]
  exact fold_xor _ (Nat.lt_of_le_of_lt Nat.and_le_right hx) _ (Nat.lt_of_le_of_lt Nat.and_le_right hx)
def psum (x : Nat) (l : List Nat) : Nat := (l.map fun v => par v x).sum
theorem psum_append (x : Nat) (a b : List Nat) : psum x (a ++ b) = psum x a + psum x b := by
  unfold psum
  rw [List.map_append, List.sum_append]
theorem psum_xor {x r : Nat} (hx : x < 32) : ∀ l : List Nat, (par r x = 0 → psum x (l.map (· ^^^ r)) = psum x l) ∧ (par r x = 1 → psum x (l.map (· ^^^ r)) + psum x l = l.length)
  | [] => ⟨fun _ => rfl, fun _ => rfl⟩
  | v :: l => by
    obtain ⟨h1, h2⟩ := psum_xor hx l
    have e : ∀ (a : Nat) (b : List Nat), psum x (a :: b) = par a x + psum x b := fun _ _ => rfl
    have ex := par_xor (v := v) (r := r) hx
    have hv := par_le v x
    constructor
    · intro hr
      rw [List.map_cons, e, e, h1 hr, ex, hr]
      omega
    · intro hr
      have := h2 hr
      rw [List.map_cons, e, e, ex, hr, List.length_cons]
      omega
theorem psum_half {x : Nat} (hx : x < 32) : ∀ (k : Nat) (rows : List Nat), rows.length = k → psum x (spanM rows) = 0 ∨ 2 * psum x (spanM rows) = 2 ^ k
  | 0, rows, hk => by
    rw [List.eq_nil_of_length_eq_zero hk]
    refine .inl ?_
    show par 0 x + 0 = 0
    unfold par
    rw [Nat.zero_and]
    rfl
  | k + 1, rows, hk => by
    have hne : rows ≠ [] := fun z => by rw [z] at hk; cases hk
    have e := List.dropLast_concat_getLast hne
    generalize rows.dropLast = rs at e
    generalize rows.getLast hne = r at e
    subst e
    have hl : rs.length = k := by simpa using hk
    have ih := psum_half hx k rs hl
    obtain ⟨h1, h2⟩ := psum_xor (r := r) hx (spanM rs)
    rw [span_len, hl] at h2
    rw [spanM_snoc, psum_append, Nat.pow_succ]
    have hr := par_le r x
    by_cases h0 : par r x = 0
    · rw [h1 h0]
      rcases ih with h | h
      · exact .inl (by omega)
      · exact .inr (by omega)
    · have := h2 (by omega)
      exact .inr (by omega)
theorem psum_tail {x : Nat} (rows : List Nat) : psum x (spanM rows).tail = psum x (spanM rows) := by
  obtain ⟨t, e⟩ := spanM_head rows
  rw [e]
  show psum x t = par 0 x + psum x t
  have : par 0 x = 0 := by unfold par; rw [Nat.zero_and]; rfl
  omega
/-! ### marks that turn nothing -/
def stepM (times : Int) (f : List Int) (v : Nat) : List Int := f.set (v - 1) ((f.getD (v - 1) 0 + times) % 8)
def lapM (times : Int) (vs : List Nat) (f : List Int) : List Int := vs.foldl (stepM times) f
def In8 (f : List Int) : Prop := ∀ u ∈ f, 0 ≤ u ∧ u < 8
abbrev pc (x : Nat) : Nat → Int := fun k => (par (k + 1) x : Int)
def Zero (n : Nat) (f : List Int) : Prop := f.length = 2 ^ n - 1 ∧ In8 f ∧ ∀ x, x < 2 ^ n → dot (pc x) f % 8 = 0
theorem stepM_len {times : Int} {f : List Int} {v : Nat} : (stepM times f v).length = f.length := List.length_set ..
theorem stepM_in {times : Int} {f : List Int} {v : Nat} (h : In8 f) : In8 (stepM times f v) := fun u hu => by
  rcases List.mem_or_eq_of_mem_set hu with h' | rfl
  · exact h u h'
  · exact ⟨Int.emod_nonneg _ (by decide), Int.emod_lt_of_pos _ (by decide)⟩
theorem stepM_dot {times : Int} {f : List Int} {v x : Nat} (h1 : 1 ≤ v) (h2 : v ≤ f.length) : (dot (pc x) (stepM times f v) - (dot (pc x) f + times * (par v x : Nat))) % 8 = 0 := by
  have hlt : v - 1 < f.length := by omega
  have hg : f[v - 1]? = some (f.getD (v - 1) 0) := by rw [List.getD_eq_getElem?_getD, List.getElem?_eq_getElem hlt]; rfl
  unfold stepM
  rw [dot_set hg]
  have ev : pc x (v - 1) = ((par v x : Nat) : Int) := by
    show ((par (v - 1 + 1) x : Nat) : Int) = _
    rw [Nat.sub_add_cancel h1]
  rw [ev]
  generalize dot (pc x) f = d
  generalize f.getD (v - 1) 0 = u
  have hp := par_le v x
  generalize par v x = p at hp
  have : p = 0 ∨ p = 1 := by omega
  rcases this with rfl | rfl
  · simp
  · rw [show ((1 : Nat) : Int) = 1 from rfl, Int.mul_one, Int.mul_one]
    omega
theorem lapM_dot {times : Int} {x : Nat} : ∀ (vs : List Nat) (f : List Int), (∀ v ∈ vs, 1 ≤ v ∧ v ≤ f.length) → (dot (pc x) (lapM times vs f) - (dot (pc x) f + times * (psum x vs : Nat))) % 8 = 0 ∧ (lapM times vs f).length = f.length
  | [], f, _ => by
    refine ⟨?_, rfl⟩
    show (dot (pc x) f - (dot (pc x) f + times * ((0 : Nat) : Int))) % 8 = 0
    simp
  | v :: vs, f, h => by
    obtain ⟨h1, h2⟩ := h v List.mem_cons_self
    have hs := stepM_dot (times := times) (x := x) h1 h2
    obtain ⟨i1, i2⟩ := lapM_dot (times := times) (x := x) vs (stepM times f v) fun u hu => by
      rw [stepM_len]
      exact h u (List.mem_cons_of_mem _ hu)
    refine ⟨?_, i2.trans stepM_len⟩
    show (dot (pc x) (lapM times vs (stepM times f v)) - (dot (pc x) f + times * ((par v x + psum x vs : Nat) : Int))) % 8 = 0
    rw [show ((par v x + psum x vs : Nat) : Int) = (par v x : Int) + (psum x vs : Int) from rfl, Int.mul_add]
    omega
theorem lapM_in {times : Int} : ∀ (vs : List Nat) (f : List Int), In8 f → In8 (lapM times vs f)
  | [], _, h => h
  | v :: vs, f, h => lapM_in vs _ (stepM_in h)
def baseM (s : Nat) : Int := if s = 1 then 0 else if s = 2 then 4 else if s = 3 then 2 else 1
theorem lap_zero {n : Nat} {f : List Int} {rows : List Nat} {k : Int} (hn : n ≤ 5) (hz : Zero n f) (hI : Ind rows = true) (hr : ∀ r ∈ rows, r < 2 ^ n) (h1 : 1 ≤ rows.length) (h4 : rows.length ≤ 4) : Zero n (lapM (baseM rows.length * k) (spanM rows).tail f) := by
  obtain ⟨z1, z2, z3⟩ := hz
  have hv : ∀ v ∈ (spanM rows).tail, 1 ≤ v ∧ v ≤ f.length := fun v hv => by
    have q1 := span_tail _ rows rfl hI v hv
    have q2 := span_lt rows [0] hr (fun r h => by rw [List.mem_singleton.mp h]; exact Nat.two_pow_pos n) v (List.mem_of_mem_tail hv)
    omega
  refine ⟨(lapM_dot (x := 0) _ f hv).2.trans z1, lapM_in _ _ z2, fun x hx => ?_⟩
  have h32 : 2 ^ n ≤ 2 ^ 5 := Nat.pow_le_pow_right (by decide) hn
  have hd := (lapM_dot (times := baseM rows.length * k) (x := x) _ f hv).1
  rw [psum_tail] at hd
  have hh := psum_half (x := x) (by omega) _ rows rfl
  have h0 := z3 x hx
  have key : (baseM rows.length * k * ((psum x (spanM rows) : Nat) : Int)) % 8 = 0 := by
    generalize psum x (spanM rows) = p at hh
    rcases hh with hh | hh
    · rw [hh]; simp
    · have : rows.length = 1 ∨ rows.length = 2 ∨ rows.length = 3 ∨ rows.length = 4 := by omega
      rcases this with e | e | e | e <;> rw [e] at hh ⊢ <;> unfold baseM
      · simp
      · have : p = 2 := by omega
        subst this
        simp only [if_true, if_false, Nat.reduceEqDiff]
        omega
      · have : p = 4 := by omega
        subst this
        simp only [if_true, if_false, Nat.reduceEqDiff]
        omega
      · have : p = 8 := by omega
        subst this
        simp only [if_true, if_false, Nat.reduceEqDiff]
        omega
  omega
theorem zero_start (n : Nat) : Zero n (List.replicate (2 ^ n - 1) 0) := by
  refine ⟨List.length_replicate, fun u hu => by rw [(List.mem_replicate.mp hu).2]; decide, fun x _ => ?_⟩
  have : ∀ (k j : Nat), esum (fun k m => m * pc x k) j (List.replicate k 0) = 0 := by
    intro k
    induction k with
    | zero => exact fun _ => rfl
    | succ k ih =>
      intro j
      rw [List.replicate_succ]
      show (0 : Int) * pc x j + esum _ (j + 1) _ = 0
      rw [ih, Int.zero_mul, Int.zero_add]
  show esum _ 0 _ % 8 = 0
  rw [this]
  rfl
theorem zero_turns {n : Nat} {f : List Int} (h : Zero n f) : turnsM f = List.replicate (2 ^ n) 0 := by
  obtain ⟨h1, _, h3⟩ := h
  have hp := Nat.two_pow_pos n
  unfold turnsM
  rw [h1, show 2 ^ n - 1 + 1 = 2 ^ n by omega]
  refine List.ext_getElem (by simp) fun i a b => ?_
  rw [List.getElem_map, List.getElem_range, List.getElem_replicate]
  exact h3 i (by simpa using b)
/-! ### marks added -/
theorem esum_add8 (c : Nat → Int) (t : Int) : ∀ (xs ys : List Int) (k : Nat), xs.length = ys.length → (esum (fun j m => m * c j) k (addM xs ys t) - (esum (fun j m => m * c j) k xs + t * esum (fun j m => m * c j) k ys)) % 8 = 0
  | [], [], _, _ => by simp [addM, esum]
  | [], _ :: _, _, h => by cases h
  | _ :: _, [], _, h => by cases h
  | x :: xs, y :: ys, k, h => by
    have ih := esum_add8 c t xs ys (k + 1) (by simpa using h)
    show ((x + t * y) % 8 * c k + esum _ (k + 1) (addM xs ys t) - (x * c k + esum _ (k + 1) xs + t * (y * c k + esum _ (k + 1) ys))) % 8 = 0
    have e : ((x + t * y) % 8 * c k - (x * c k + t * (y * c k))) % 8 = 0 := by
      have e1 : (x + t * y) % 8 * c k - (x * c k + t * (y * c k)) = ((x + t * y) % 8 - (x + t * y)) * c k := by
        rw [Int.sub_mul, Int.add_mul, Int.mul_assoc]
      rw [e1]
      have e2 : ((x + t * y) % 8 - (x + t * y)) % 8 = 0 := by omega
      obtain ⟨q, hq⟩ := Int.dvd_of_emod_eq_zero e2
      rw [hq, Int.mul_assoc]
      exact Int.mul_emod_right _ _
    rw [Int.mul_add]
    omega
theorem added_turns {n : Nat} {xs zs : List Int} {t : Int} (hx : xs.length = 2 ^ n - 1) (hz : Zero n zs) : turnsM (addM xs zs t) = turnsM xs := by
  have hl : xs.length = zs.length := hx.trans hz.1.symm
  have hp := Nat.two_pow_pos n
  unfold turnsM
  rw [addM_len hl]
  refine List.map_congr_left fun x hxm => ?_
  have hx2 : x < 2 ^ n := by have := List.mem_range.mp hxm; omega
  have h1 := esum_add8 (pc x) t xs zs 0 hl
  have h2 := hz.2.2 x hx2
  unfold turnM
  show dot (pc x) (addM xs zs t) % 8 = dot (pc x) xs % 8
  change (dot (pc x) (addM xs zs t) - (dot (pc x) xs + t * dot (pc x) zs)) % 8 = 0 at h1
  obtain ⟨q, hq⟩ := Int.dvd_of_emod_eq_zero h2
  rw [hq, Int.mul_left_comm] at h1
  omega
/-! ### sums and turns -/
theorem rest_zeros {n : Nat} {lot : List Nat} : restM n (List.replicate (2 ^ n - 1) 0) lot = 0 := by
  unfold restM
  rw [asum_zeros]
  exact Int.zero_emod _
theorem first_iff {n : Nat} {ms : List Int} (hn : n ≤ 5) (hl : ms.length = 2 ^ n - 1) : firstSum n ms = none ↔ turnsM ms = List.replicate (2 ^ n) 0 := by
  have hz := zero_turns (zero_start n)
  have hzl : (List.replicate (2 ^ n - 1) (0 : Int)).length = 2 ^ n - 1 := List.length_replicate
  constructor
  · intro h
    rw [← hz]
    refine turns_of_rest hn hl hzl fun lot hm => ?_
    rw [rest_zeros]
    have := List.find?_eq_none.mp h lot hm
    simpa using this
  · intro h
    refine first_none fun j lot hj => ?_
    rw [rest_of_turns hn hl hzl (List.mem_of_getElem? hj) (h.trans hz.symm)]
    exact rest_zeros
theorem restM_range {n : Nat} {ms : List Int} {lot : List Nat} (hn : n ≤ 5) (hm : lot ∈ lots n 1 3) : 0 ≤ restM n ms lot ∧ restM n ms lot < 8 := by
  obtain ⟨h1, h2⟩ := rmod_pos hn hm
  unfold restM
  exact ⟨Int.emod_nonneg _ (by omega), Int.lt_of_lt_of_le (Int.emod_lt_of_pos _ h1) h2⟩
theorem wires_ind : ∀ n, n ≤ 5 → Ind ((List.range n).map (wbit n)) = true := by decide +kernel
theorem wires_lt : ∀ n, n ≤ 5 → ∀ r ∈ (List.range n).map (wbit n), r < 2 ^ n := by decide +kernel
end E8
set_option Elab.async false
set_option linter.all false
set_option maxRecDepth 100000
/-! D14: maps, marks that turn nothing, marks. -/
namespace E8
open PySem PySem.Spec PyProof.Rows L2
theorem keep_new {t f : Addr} {H H1 H2 : Hp} (k : Keep t H H1) (hf : H f = none) (k2 : Keep f H1 H2) : Keep t H H2 := fun b o nb e => k2 b o (ne_of_none e hf) (k b o nb e)
theorem Tin.keep {t f : Addr} {H H' : Hp} {c : Int} (h : Tin H t c) (k : Keep f H H') (n : t ≠ f) : Tin H' t c := by
  obtain ⟨t0, t1, t2, h0, h1⟩ := h
  exact ⟨t0, t1, t2, k _ _ n h0, h1⟩
theorem two_of {as rest : List Int} {n : Nat} (hl : as.length = 2) (hp : (as ++ rest).Perm (lotI (List.range n))) : ∃ a b : Nat, as = [(a : Int), (b : Int)] ∧ a < n ∧ b < n ∧ a ≠ b := by
  match as, hl with
  | [x, y], _ =>
    have hx : x ∈ lotI (List.range n) := hp.subset (by simp)
    have hy : y ∈ lotI (List.range n) := hp.subset (by simp)
    have hnd : (lotI (List.range n)).Nodup := List.Pairwise.map _ (fun a b e z => e (Int.ofNat.inj z)) List.nodup_range
    have hnd2 := hp.symm.nodup hnd
    obtain ⟨a, ha, rfl⟩ := List.mem_map.mp hx
    obtain ⟨b, hb, rfl⟩ := List.mem_map.mp hy
    refine ⟨a, b, rfl, List.mem_range.mp ha, List.mem_range.mp hb, fun e => ?_⟩
    subst e
    simp at hnd2
theorem lotV_get {l : List Nat} {i : Nat} (h : i < l.length) : (lotV l)[i]? = some (.int (l[i] : Nat)) := by
  rw [← lotV_eq, List.getElem?_map, List.getElem?_eq_getElem h]
  rfl
theorem lotV_set (l : List Nat) (i v : Nat) : (lotV l).set i (.int v) = lotV (l.set i v) := by
  rw [← lotV_eq, ← lotV_eq, List.map_set]
section
variable {P : Program} {w : World} {K : PySem.W.Frag} {mg : Str → Option Value} {base : Heap}
def spMaps (K : PySem.W.Frag) : Sp := fun vs H Q _ => ∃ (t : Addr) (n : Nat) (c : Int), vs = [.ref t, .int n] ∧ Tin H t c ∧ c ≤ 8000 ∧ 1 ≤ n ∧ n ≤ 5 ∧
  ∀ p rows H', Keep t H H' → Tin H' t (c + 20) → SqT K H' p (lotV rows) → rows.length = n → Ind rows = true → (∀ r ∈ rows, r < 2 ^ n) → Q (.ref p) H'
theorem ok_law_maps (T : Txt K mg) : FnOk P w K mg base CX0 3 T.law_maps.f T.law_maps.fd ["_law_tin", "_law_n_so"] (spMaps K) := by
  refine T.law_maps.F.ok sc_law_maps (fun vs H Q E h => ?_) (fun cdv A outer s H vs Q E hr h => ?_)
  · obtain ⟨t, n, c, rfl, _⟩ := h; rfl
  · obtain ⟨t, n, c, rfl, hT, hc, hn1, hn, k⟩ := h
    refine ⟨_, (pss_cons (ps_setLc (i := 2) (own := [("_law_q", 5)]) (g := gName 5) (tt := tYes) rfl sc_law_maps.nd rfl rfl (sw_true rfl rfl rfl (by decide +kernel)) (pi_range1 rfl T.z_range (pa_cons (pv 1) pa_nil)) (blkOk_by (N := ["_law_tin", "_law_n_so", "_law_rows_so", "_law_lap", "_law_pair_so", "_law_q"]) (sc := defScope s_law_maps) (by decide +kernel)) (fun _ _ _ _ _ => (pg_name (i := 5) sc_law_maps.nd rfl (Or.inl rfl))) (fun _ _ _ _ _ => pts_nil) (fun _ _ _ _ _ => (pe_call (ok_law_wire T) (hr.mono (by decide)) rfl T.law_wire.m T.law_wire.F.kp T.law_wire.b .nil pass0 (pa_cons (pv 1) (pa_cons (pv 5) pa_nil)))))
      (pss_cons (ps_for PassesOwn.never rfl (pi_range1 rfl T.z_range (pa_cons (pe_op op_mul (pe_call (ok_law_take T) (hr.mono (by decide)) rfl T.law_take.m T.law_take.F.kp T.law_take.b .nil pass0 (pa_cons (pv 0) (pa_cons (pe_op op_mul pe_int (pv 1)) pa_nil))) (pe_callTy call_int1 (by rfl) T.z_int (by decide +kernel) (pa_cons (pe_cmpR op_gt (pv 1) pe_int (nomark _)) pa_nil))) pa_nil)) (pg_name (i := 3) sc_law_maps.nd rfl (Or.inl rfl)) (pss_cons (ps_set (i := 4) sc_law_maps.nd rfl (Or.inl rfl) (pe_call (ok_law_pick T) (hr.mono (by decide)) rfl T.law_pick.m T.law_pick.F.kp T.law_pick.b .nil pass0 (pa_cons (pv 0) (pa_cons (pe_listRg rfl rfl T.z_list (prg_1 rfl T.z_range (pv 1))) (pa_cons pe_int pa_nil)))))
      (pss_one (ps_asg (pe_op op_xorC (pe_ix (r := rIxL K) ix_list (pv 2) (pe_ix (r := rIxL K) ix_list (pv 4) pe_int (fun _ _ => rfl)) (fun _ _ => rfl)) (pe_ix (r := rIxL K) ix_list (pv 2) (pe_ix (r := rIxL K) ix_list (pv 4) pe_int (fun _ _ => rfl)) (fun _ _ => rfl))) (pg_sub (pv 2) (pe_ix (r := rIxL K) ix_list (pv 4) pe_int (fun _ _ => rfl)) set_list)))))
      (pss_one (ps_ret (pe_callTy call_tuple_of (by rfl) T.z_tuple (by decide +kernel) (pa_cons (pv 2) pa_nil)))))), ?_⟩
    obtain ⟨tx, htx⟩ := hT.at
    refine ⟨_, rfl, _, rfl, by omega, by omega, fun D hD => ?_⟩
    rw [Int.toNat_natCast]
    have ntD : t ≠ D := ne_of_none htx hD
    refine lc_pure (n := n) walk_range (fun i => lotV ((List.range i).map (wbit n))) (by omega) hD rfl (fun i _ => by rw [lotV_len]; simp) (fun H1 e => trivial) ?_ ?_
    · rintro i v H1 H2 hi sm ⟨rfl, rfl⟩ yes no ky kn
      refine ⟨rfl, _, rfl, _, rfl, n, i, by simp, hi, by omega, ky _ _ (Same.refl _) ?_⟩
      rw [List.range_succ, List.map_append, ← lotV_eq, ← lotV_eq, List.map_append]
      rfl
    · intro H1 s1 hD1
      refine ⟨_, rfl, _, rfl, _, _, rfl, rfl, .inl (by decide), t, _, c, rfl, hT.same s1, by omega, by show (1 : Int) ≤ 2 * n; omega, by show 2 * (n : Int) ≤ 1000; omega, fun r H2 r0 r1 k2 hT2 => ?_⟩
      refine ⟨_, rfl, _, _, rfl, rfl, .inr ⟨_, rfl, _, _, rfl, rfl, .inr ?_, ?_⟩⟩
      · have : ∀ bb : Bool, (-(2 ^ 64) < (if bb = true then (1 : Int) else 0)) ∧ ((if bb = true then (1 : Int) else 0) < 2 ^ 64) := by decide
        exact this _
      have hm : ∃ m : Nat, r * (if decide ((1 : Int) < n) = true then (1 : Int) else 0) = (m : Nat) ∧ m ≤ 9 ∧ (n = 1 → m = 0) := by
        by_cases h1 : (1 : Int) < n
        · refine ⟨r.toNat, ?_, ?_, ?_⟩
          · rw [if_pos (decide_eq_true h1)]; omega
          · have : r < 2 * n := r1
            omega
          · omega
        · refine ⟨0, ?_, by omega, fun _ => rfl⟩
          rw [if_neg (fun z => h1 (of_decide_eq_true z))]
          omega
      obtain ⟨m, em, hm9, hm1⟩ := hm
      refine ⟨(m : Int), congrArg (fun z => [V.int z]) em, by omega, by omega, ?_⟩
      rw [Int.toNat_natCast]
      have k02 : Keep t H H2 := (Keep.of s1).trans k2
      have hD2 := k2 _ _ (Ne.symm ntD) hD1
      refine for_range (n := m) (fun i σ H' => ∃ (v3 v4 : Option V) (rows : List Nat), σ = [some (.ref t), some (.int n), some (.ref D), v3, v4, none] ∧ Keep t H H' ∧ Tin H' t (c + 1 + 2 * i) ∧ H' D = some (.lst (lotV rows)) ∧ rows.length = n ∧ Ind rows = true ∧ ∀ r ∈ rows, r < 2 ^ n)
        ⟨none, none, _, rfl, k02, hT2.mono (by omega), hD2, by simp, wires_ind n hn, wires_lt n hn⟩ ?_ ?_
      · rintro i σ H3 hi ⟨v3, v4, rows, rfl, k3, hT3, hD3, hl3, hI3, hr3⟩
        have hn2 : 2 ≤ n := by
          by_cases h1 : n = 1
          · have := hm1 h1; omega
          · omega
        refine ⟨_, rfl, _, rfl, _, rfl, by refine .of_le ?_ ?_ ?_ ?_ <;> omega, fun q hq => ?_⟩
        rw [rg_lot]
        obtain ⟨tx3, htx3⟩ := hT3.at
        have nqt : q ≠ t := fun z => by rw [z, htx3] at hq; cases hq
        refine ⟨t, q, lotI (List.range n), 2, c + 1 + 2 * i, rfl, hT3.same (Same.new hq), by omega, SqL.of upd_same, nqt, by unfold lotI; rw [List.length_map, List.length_range]; omega, by unfold lotI; rw [List.length_map, List.length_range]; omega, fun p2 as rest H4 k4 hT4 hp2n hp2 hal hperm => ?_⟩
        obtain ⟨a, b, rfl, ha, hb, hab⟩ := two_of hal hperm
        have k34 : Keep t H3 H4 := (Keep.of (Same.new hq)).trans k4
        have hD4 := k34 _ _ (Ne.symm ntD) hD3
        have la : a < rows.length := by omega
        have lb : b < rows.length := by omega
        refine ⟨_, rfl, _, rfl, p2, _, 0, .int a, rfl, rfl, SqL.of hp2, rfl, D, _, a, _, rfl, rfl, SqL.of hD4, atI_nat (lotV_get la), ?_⟩
        refine ⟨_, rfl, _, rfl, p2, _, 1, .int b, rfl, rfl, SqL.of hp2, rfl, D, _, b, _, rfl, rfl, SqL.of hD4, atI_nat (lotV_get lb), rows[a], rows[b], rfl, rfl, ?_⟩
        refine ⟨_, rfl, _, rfl, p2, _, 0, .int a, rfl, rfl, SqL.of hp2, rfl, D, _, a, a, rfl, rfl, hD4, ixN_nat (by rw [lotV_len]; exact la), ?_⟩
        refine ⟨_, _, rows.set a (rows[a] ^^^ rows[b]), rfl, keep_new (k3.trans k34) hD Keep.upd, (hT4.keep Keep.upd ntD).mono (by push_cast; omega), by rw [upd_same, ← lotV_set], by rw [List.length_set]; exact hl3, Ind_op la lb hab hI3, fun r hr => ?_⟩
        rcases List.mem_or_eq_of_mem_set hr with h' | rfl
        · exact hr3 r h'
        · exact Nat.xor_lt_two_pow (hr3 _ (List.getElem_mem la)) (hr3 _ (List.getElem_mem lb))
      · rintro σ H3 ⟨v3, v4, rows, rfl, k3, hT3, hD3, hl3, hI3, hr3⟩
        refine ⟨_, rfl, D, _, rfl, .inl ⟨SqL.of hD3, fun p hp => ?_⟩⟩
        exact k p rows _ (k3.trans (Keep.of (Same.new hp))) ((hT3.same (Same.new hp)).mono (by omega)) (SqT.of upd_same) hl3 hI3 hr3
end
end E8
set_option Elab.async false
set_option linter.all false
set_option maxRecDepth 100000
/-! D15: marks that turn nothing, marks. -/
namespace E8
open PySem PySem.Spec PyProof.Rows L2
def baseKv : List (Key × V) := [(.inl 1, .int 0), (.inl 2, .int 4), (.inl 3, .int 2), (.inl 4, .int 1)]
theorem base_get : ∀ s, s ≤ 4 → 1 ≤ s → valV (mergeK [] baseKv) (.inl (s : Nat)) = some (.int (baseM s)) := by decide +kernel
theorem pow_bnd {n : Nat} (hn : n ≤ 5) : 2 ^ n ≤ 32 := Nat.pow_le_pow_right (by decide) hn
theorem lap_succ {times : Int} {vs : List Nat} {f : List Int} {i v : Nat} (h : vs[i]? = some v) : lapM times (vs.take (i + 1)) f = stepM times (lapM times (vs.take i) f) v := by
  obtain ⟨hlt, e⟩ := List.getElem?_eq_some_iff.mp h
  unfold lapM
  rw [List.take_succ_eq_append_getElem hlt, e, List.foldl_append]
  rfl
theorem lap_len {times : Int} : ∀ (vs : List Nat) (f : List Int), (lapM times vs f).length = f.length
  | [], _ => rfl
  | v :: vs, f => (lap_len vs _).trans stepM_len
theorem ints_get {ms : List Int} {i : Nat} (h : i < ms.length) : (ms.map V.int)[i]? = some (.int (ms.getD i 0)) := by
  rw [List.getElem?_map, List.getElem?_eq_getElem h, List.getD_eq_getElem?_getD, List.getElem?_eq_getElem h]
  rfl
theorem lotV_drop (l : List Nat) : (lotV l).drop 1 = lotV l.tail := by
  rw [← lotV_eq, ← lotV_eq, ← List.map_drop, List.drop_one]
section
variable {P : Program} {w : World} {K : PySem.W.Frag} {mg : Str → Option Value} {base : Heap}
def spZm (K : PySem.W.Frag) : Sp := fun vs H Q _ => ∃ (t : Addr) (n : Nat) (c : Int), vs = [.ref t, .int n] ∧ Tin H t c ∧ c ≤ 5000 ∧ 1 ≤ n ∧ n ≤ 5 ∧
  ∀ p ms H', Keep t H H' → Tin H' t (c + 90) → SqT K H' p (ms.map V.int) → Zero n ms → Q (.ref p) H'
theorem ok_law_zero_marks (T : Txt K mg) : FnOk P w K mg base CX0 4 T.law_zero_marks.f T.law_zero_marks.fd ["_law_tin", "_law_n_so"] (spZm K) := by
  refine T.law_zero_marks.F.ok sc_law_zero_marks (fun vs H Q E h => ?_) (fun cdv A outer s H vs Q E hr h => ?_)
  · obtain ⟨t, n, c, rfl, _⟩ := h; rfl
  · obtain ⟨t, n, c, rfl, hT, hc, hn1, hn, k⟩ := h
    have h32 := pow_bnd hn
    have hp2 : 2 ≤ 2 ^ n := Nat.pow_le_pow_right (n := 2) (by decide) (show 1 ≤ n from hn1)
    refine ⟨_, (pss_cons (ps_set (i := 2) sc_law_zero_marks.nd rfl (Or.inl rfl) (pe_op op_rep (pe_lst (pa_cons pe_int pa_nil)) (pe_op op_sub (pe_op op_shlC pe_int (pv 1)) pe_int)))
      (pss_cons (ps_for PassesOwn.never rfl (pi_range1 rfl T.z_range (pa_cons (pe_op op_add pe_int (pe_call (ok_law_take T) (hr.mono (by decide)) rfl T.law_take.m T.law_take.F.kp T.law_take.b .nil pass0 (pa_cons (pv 0) (pa_cons pe_int pa_nil)))) pa_nil)) (pg_name (i := 3) sc_law_zero_marks.nd rfl (Or.inl rfl)) (pss_cons (ps_set (i := 4) sc_law_zero_marks.nd rfl (Or.inl rfl) (pe_callB (call_min2 rfl) (by rfl) T.z_min (by decide +kernel) (pa_cons (pv 1) (pa_cons (pe_op op_add pe_int (pe_call (ok_law_take T) (hr.mono (by decide)) rfl T.law_take.m T.law_take.F.kp T.law_take.b .nil pass0 (pa_cons (pv 0) (pa_cons pe_int pa_nil)))) pa_nil))))
      (pss_cons (ps_set (i := 5) sc_law_zero_marks.nd rfl (Or.inl rfl) (pe_call (ok_law_pick T) (hr.mono (by decide)) rfl T.law_pick.m T.law_pick.F.kp T.law_pick.b .nil pass0 (pa_cons (pv 0) (pa_cons (pe_callTy call_list_of (by rfl) T.z_list (by decide +kernel) (pa_cons (pe_call (ok_law_maps T) (hr.mono (by decide)) rfl T.law_maps.m T.law_maps.F.kp T.law_maps.b .nil pass0 (pa_cons (pv 0) (pa_cons (pv 1) pa_nil))) pa_nil)) (pa_cons (pv 4) pa_nil)))))
      (pss_cons (ps_set (i := 6) sc_law_zero_marks.nd rfl (Or.inl rfl) (pe_op op_mul (pe_dget (hu_of hr) (pe_disp (pps_cons pe_int pe_int (pps_cons pe_int pe_int (pps_cons pe_int pe_int (pps_cons pe_int pe_int pps_nil)))) (by rfl) (by rfl) (fun z => by cases z) (by decide)) (pv 4) (fun _ _ => rfl)) (pe_op op_add pe_int (pe_call (ok_law_take T) (hr.mono (by decide)) rfl T.law_take.m T.law_take.F.kp T.law_take.b .nil pass0 (pa_cons (pv 0) (pa_cons pe_int pa_nil))))))
      (pss_one (ps_for PassesOwn.never rfl (pi_list (pe_slice sl_list (pe_call (ok_law_span T) (hr.mono (by decide)) rfl T.law_span.m T.law_span.F.kp T.law_span.b .nil pass0 (pa_cons (pv 5) pa_nil)) (po_some pe_int) po_none)) (pg_name (i := 7) sc_law_zero_marks.nd rfl (Or.inl rfl)) (pss_one (ps_asg (pe_op op_mod (pe_op op_add (pe_ix (r := rIxL K) ix_list (pv 2) (pe_op op_sub (pv 7) pe_int) (fun _ _ => rfl)) (pv 6)) pe_int) (pg_sub (pv 2) (pe_op op_sub (pv 7) pe_int) set_list)))))))))
      (pss_one (ps_ret (pe_callTy call_tuple_of (by rfl) T.z_tuple (by decide +kernel) (pa_cons (pv 2) pa_nil)))))), ?_⟩
    obtain ⟨tx, htx⟩ := hT.at
    refine ⟨by show 1 ≤ sizeLine; decide, fun l0 hl0 => ?_⟩
    refine ⟨_, rfl, 1, n, rfl, rfl, by decide, by omega, _, _, rfl, rfl, l0, _, _, rfl, rfl, upd_same, ?_, ?_, ?_, fun f hf => ?_⟩
    · omega
    · omega
    · show 1 * _ ≤ _
      rw [sizeLine_eq]; omega
    have hk : (((1 * 2 ^ n : Nat) : Int) - 1).toNat = 2 ^ n - 1 := by omega
    have hfH : H f = none := Same.free (Same.new hl0) hf
    have ntf : t ≠ f := ne_of_none htx hfH
    have s0 : Same H (upd (upd H l0 (.lst [.int 0])) f (.lst (List.replicate (((1 * 2 ^ n : Nat) : Int) - 1).toNat [V.int 0]).flatten)) := (Same.new hl0).trans (Same.new hf)
    have hf0 : upd (upd H l0 (.lst [.int 0])) f (.lst (List.replicate (((1 * 2 ^ n : Nat) : Int) - 1).toNat [V.int 0]).flatten) f = some (.lst ((List.replicate (2 ^ n - 1) (0 : Int)).map V.int)) := by
      rw [upd_same, hk, rep_flat]
    generalize upd (upd H l0 (.lst [.int 0])) f (.lst (List.replicate (((1 * 2 ^ n : Nat) : Int) - 1).toNat [V.int 0]).flatten) = H1 at s0 hf0
    refine ⟨_, rfl, t, 3, c, rfl, hT.same s0, by omega, by decide, by decide, fun r H2 r0 r1 k2 hT2 => ?_⟩
    obtain ⟨r, rfl⟩ := Int.eq_ofNat_of_zero_le r0
    refine ⟨_, _, rfl, rfl, _, rfl, by omega, by omega, ?_⟩
    have hm : ((1 : Int) + (r : Nat)).toNat = r + 1 := by omega
    rw [hm]
    have k02 : Keep t H H2 := (Keep.of s0).trans k2
    have hf2 := k2 _ _ (Ne.symm ntf) hf0
    refine for_range (n := r + 1) (fun i σ H' => ∃ (v3 v4 v5 v6 v7 : Option V) (ms : List Int), σ = [some (.ref t), some (.int n), some (.ref f), v3, v4, v5, v6, v7] ∧ Keep t H H' ∧ Tin H' t (c + 1 + 26 * i) ∧ H' f = some (.lst (ms.map V.int)) ∧ Zero n ms)
      ⟨none, none, none, none, none, _, rfl, k02, hT2.mono (by omega), hf2, zero_start n⟩ ?_ ?_
    · rintro i σ H3 hi ⟨v3, v4, v5, v6, v7, ms, rfl, k3, hT3, hf3, hz⟩
      -- the size
      refine ⟨_, rfl, _, rfl, t, 3, c + 1 + 26 * i, rfl, hT3, by omega, by decide, by decide, fun r2 H4 r20 r21 k4 hT4 => ?_⟩
      obtain ⟨r2, rfl⟩ := Int.eq_ofNat_of_zero_le r20
      refine ⟨_, _, rfl, rfl, _, _, rfl, ?_⟩
      have hs : ∃ sz : Nat, (if (2 : Int) + (r2 : Nat) < (n : Nat) then (2 : Int) + (r2 : Nat) else (n : Nat)) = (sz : Nat) ∧ 1 ≤ sz ∧ sz ≤ 4 ∧ sz ≤ n := by
        by_cases hlt : (2 : Int) + (r2 : Nat) < (n : Nat)
        · exact ⟨r2 + 2, by rw [if_pos hlt]; omega, by omega, by omega, by omega⟩
        · exact ⟨n, by rw [if_neg hlt], by omega, by omega, by omega⟩
      obtain ⟨sz, es, z1, z4, zn⟩ := hs
      dsimp only
      rw [es]
      have hf4 := k4 _ _ (Ne.symm ntf) hf3
      -- the rows
      refine ⟨_, rfl, _, rfl, _, rfl, t, n, _, rfl, hT4, by omega, hn1, hn, fun p rows H5 k5 hT5 hp hrl hI hrb => ?_⟩
      refine ⟨p, _, rfl, .inr hp, fun l hl => ?_⟩
      have hf5 := k5 _ _ (Ne.symm ntf) hf4
      obtain ⟨tx5, htx5⟩ := hT5.at
      have nlt : l ≠ t := fun z => by rw [z, htx5] at hl; cases hl
      have nlf : f ≠ l := ne_of_none hf5 hl
      have lI : ∀ l : List Nat, (lotI l).length = l.length := fun l => List.length_map ..
      refine ⟨_, rfl, t, l, lotI rows, sz, _, rfl, hT5.same (Same.new hl), by omega, SqL.of upd_same, nlt, by rw [lI]; omega, by rw [lI]; omega, fun pk as rest H6 k6 hT6 hpk0 hpk hal hperm => ?_⟩
      have k56 : Keep t H5 H6 := (Keep.of (Same.new hl)).trans k6
      have hf6 := k56 _ _ (Ne.symm ntf) hf5
      -- the rows that were picked
      have hpick : ∃ rs : List Nat, as = lotI rs ∧ Ind rs = true ∧ ∀ q ∈ rs, q < 2 ^ n := by
        have hsub : ∀ x ∈ as ++ rest, ∃ q : Nat, x = (q : Int) := fun x hx => by
          obtain ⟨q, _, rfl⟩ := List.mem_map.mp (hperm.subset hx)
          exact ⟨q, rfl⟩
        have e1 : ∀ l : List Int, (∀ x ∈ l, ∃ q : Nat, x = (q : Int)) → l = lotI (l.map Int.toNat) := fun l hl => by
          unfold lotI
          rw [List.map_map]
          refine (List.map_id l).symm.trans (List.map_congr_left fun x hx => ?_)
          obtain ⟨q, rfl⟩ := hl x hx
          rfl
        have hp2 : ((as ++ rest).map Int.toNat).Perm ((lotI rows).map Int.toNat) := hperm.map _
        have e2 : (lotI rows).map Int.toNat = rows := by
          unfold lotI
          rw [List.map_map]
          exact (List.map_congr_left fun x _ => rfl).trans (List.map_id rows)
        rw [e2, List.map_append] at hp2
        refine ⟨as.map Int.toNat, e1 as fun x hx => hsub x (List.mem_append_left _ hx), Ind_part hp2 hI, fun q hq => hrb q (hp2.subset (List.mem_append_left _ hq))⟩
      obtain ⟨rs, rfl, hIs, hrs⟩ := hpick
      rw [lI] at hal
      -- the times
      refine fun d hd => ⟨upd_same, baseKv, rfl, by decide, _, rfl, d, .int (baseM sz), rfl, .inl ⟨_, .inl (sz : Nat), .inl upd_same, rfl, (base_get sz z4 z1).symm⟩, ?_⟩
      have s7 : Same H6 (upd (upd H6 d (.dK [])) d (.dK (mergeK [] baseKv))) := Same.mut (Same.new hd) hd
      generalize upd (upd H6 d (.dK [])) d (.dK (mergeK [] baseKv)) = H7 at s7
      refine ⟨_, rfl, t, 3, _, rfl, hT6.same s7, by omega, by decide, by decide, fun r3 H8 r30 r31 k8 hT8 => ?_⟩
      have hb : -(2 ^ 64) < baseM sz ∧ baseM sz < 2 ^ 64 := by
        unfold baseM
        repeat' split
        all_goals decide
      refine ⟨_, _, rfl, rfl, _, _, rfl, rfl, .inl hb, ?_⟩
      have k68 : Keep t H6 H8 := (Keep.of s7).trans k8
      have hf8 := k68 _ _ (Ne.symm ntf) hf6
      obtain ⟨tx6, htx6⟩ := hT6.at
      have npt : pk ≠ t := fun z => by
        obtain ⟨tx5', htx5'⟩ := (hT5.same (Same.new (o := .lst (lotV rows)) hl)).at
        rw [z, htx5'] at hpk0; cases hpk0
      have hpk8 := k68 _ _ npt hpk
      -- the span
      refine ⟨_, rfl, pk, rs, rfl, SqL.of hpk8, by omega, fun p3 H9 s9 hp3 => ?_⟩
      refine ⟨_, rfl, p3, _, rfl, SqL.of hp3, fun e he => ?_⟩
      rw [cut1, lotV_drop]
      have k89 : Keep t H8 (upd H9 e (.lst (lotV (spanM rs).tail))) := Keep.of (s9.trans (Same.new he))
      have hT9 : Tin (upd H9 e (.lst (lotV (spanM rs).tail))) t (c + 1 + 26 * (i + 1 : Nat)) := (hT8.same (s9.trans (Same.new he))).mono (by push_cast; omega)
      have hf9 := k89 _ _ (Ne.symm ntf) hf8
      have nfe : f ≠ e := ne_of_none (s9 _ _ hf8) he
      have he9 : upd H9 e (.lst (lotV (spanM rs).tail)) e = some (.lst (lotV (spanM rs).tail)) := upd_same
      have kH9 : Keep t H (upd H9 e (.lst (lotV (spanM rs).tail))) := k3.trans (k4.trans (k5.trans (k56.trans (k68.trans k89))))
      have hzz := lap_zero (k := 1 + r3) hn hz hIs hrs (by omega) (by omega)
      rw [hal] at hzz
      have hvs : ∀ v ∈ (spanM rs).tail, 1 ≤ v ∧ v ≤ ms.length := fun v hv => by
        have q1 := span_tail _ rs rfl hIs v hv
        have q2 := span_lt rs [0] hrs (fun r h => by rw [List.mem_singleton.mp h]; exact Nat.two_pow_pos n) v (List.mem_of_mem_tail hv)
        have := hz.1
        omega
      generalize upd H9 e (.lst (lotV (spanM rs).tail)) = H10 at hT9 hf9 he9 kH9
      generalize (spanM rs).tail = vs at he9 hzz hvs
      refine ⟨e, rfl, ⟨_, SqL.of he9⟩, for_list (K := K) (a := e) (xs := lotV vs) (fun j σ H' => ∃ v7 : Option V, σ = [some (.ref t), some (.int n), some (.ref f), some (.int (0 + (i : Nat))), some (.int sz), some (.ref pk), some (.int (baseM sz * (1 + r3))), v7] ∧ Keep t H H' ∧ Tin H' t (c + 1 + 26 * (i + 1 : Nat)) ∧ H' f = some (.lst ((lapM (baseM sz * (1 + r3)) (vs.take j) ms).map V.int)) ∧ H' e = some (.lst (lotV vs)))
        ⟨_, rfl, kH9, hT9, hf9, he9⟩ (fun j σ H' _ ⟨_, _, _, _, _, z⟩ => SqL.of z) ?_ ?_⟩
      · rintro j x σ H11 hx ⟨v7, rfl, k11, hT11, hf11, he11⟩
        obtain ⟨v, hv, rfl⟩ := lotV_at hx
        obtain ⟨q1, q2⟩ := hvs v (List.mem_of_getElem? hv)
        have hll := lap_len (times := baseM sz * (1 + r3)) (vs.take j) ms
        have hls := lap_succ (times := baseM sz * (1 + r3)) (f := ms) hv
        generalize lapM (baseM sz * (1 + r3)) (vs.take j) ms = g at hf11 hll hls
        have ev : ((v : Nat) : Int) - 1 = ((v - 1 : Nat) : Int) := by omega
        refine ⟨_, rfl, _, rfl, _, _, rfl, rfl, f, _, ((v : Nat) : Int) - 1, .int (g.getD (v - 1) 0), rfl, rfl, SqL.of hf11, by rw [ev]; exact atI_nat (ints_get (by omega)), ?_⟩
        refine ⟨_, rfl, _, _, rfl, rfl, _, _, rfl, rfl, (by show (0 : Int) < 8; decide), ?_⟩
        refine ⟨_, rfl, _, rfl, _, _, rfl, rfl, f, _, ((v : Nat) : Int) - 1, v - 1, rfl, rfl, hf11, by rw [ev]; exact ixN_nat (by rw [List.length_map]; omega), ?_⟩
        refine ⟨_, rfl, keep_new k11 hfH Keep.upd, hT11.keep Keep.upd ntf, ?_, by rw [upd_ne (Ne.symm nfe)]; exact he11⟩
        rw [upd_same, hls]
        unfold stepM
        rw [List.map_set]
      · rintro σ H11 ⟨v7, rfl, k11, hT11, hf11, he11⟩
        rw [lotV_len, List.take_length] at hf11
        exact ⟨_, _, _, _, _, _, rfl, k11, hT11, hf11, hzz⟩
    · rintro σ H3 ⟨v3, v4, v5, v6, v7, ms, rfl, k3, hT3, hf3, hz⟩
      refine ⟨_, rfl, f, _, rfl, .inl ⟨SqL.of hf3, fun p hp => ?_⟩⟩
      exact k p ms _ (k3.trans (Keep.of (Same.new hp))) ((hT3.same (Same.new hp)).mono (by push_cast; omega)) (SqT.of upd_same) hz
end
end E8
set_option Elab.async false
set_option linter.all false
set_option maxRecDepth 100000
/-! D16: marks. -/
namespace E8
open PySem PySem.Spec PyProof.Rows L2
theorem in8_set {f : List Int} {j : Nat} {u : Int} (h : In8 f) (h0 : 0 ≤ u) (h1 : u < 8) : In8 (f.set j u) := fun x hx => by
  rcases List.mem_or_eq_of_mem_set hx with h' | rfl
  · exact h x h'
  · exact ⟨h0, h1⟩
theorem in8_snoc {f : List Int} {u : Int} (h : In8 f) (h0 : 0 ≤ u) (h1 : u < 8) : In8 (f ++ [u]) := fun x hx => by
  rcases List.mem_append.mp hx with h' | h'
  · exact h x h'
  · rw [List.mem_singleton.mp h']; exact ⟨h0, h1⟩
theorem ints_pick {ns : List Int} {j : Nat} {v : V} (h : (ns.map V.int)[j]? = some v) : ∃ u, u ∈ ns ∧ v = .int u := by
  obtain ⟨u, hu, rfl⟩ := List.mem_map.mp (List.mem_of_getElem? h)
  exact ⟨u, hu, rfl⟩
section
variable {P : Program} {w : World} {K : PySem.W.Frag} {mg : Str → Option Value} {base : Heap}
def spMks (K : PySem.W.Frag) : Sp := fun vs H Q _ => ∃ (t : Addr) (n : Nat) (c : Int), vs = [.ref t, .int n] ∧ Tin H t c ∧ c ≤ 4000 ∧ 1 ≤ n ∧ n ≤ 5 ∧
  ∀ p ms H', Keep t H H' → Tin H' t (c + 100) → SqT K H' p (ms.map V.int) → ms.length = 2 ^ n - 1 → In8 ms → Q (.ref p) H'
theorem ok_law_marks (T : Txt K mg) : FnOk P w K mg base CX0 5 T.law_marks.f T.law_marks.fd ["_law_tin", "_law_n_so"] (spMks K) := by
  refine T.law_marks.F.ok sc_law_marks (fun vs H Q E h => ?_) (fun cdv A outer s H vs Q E hr h => ?_)
  · obtain ⟨t, n, c, rfl, _⟩ := h; rfl
  · obtain ⟨t, n, c, rfl, hT, hc, hn1, hn, k⟩ := h
    have h32 := pow_bnd hn
    have hp2 : 2 ≤ 2 ^ n := Nat.pow_le_pow_right (n := 2) (by decide) (show 1 ≤ n from hn1)
    refine ⟨_, (pss_cons (ps_asg (pe_tup (pa_cons (pe_call (ok_law_take T) (hr.mono (by decide)) rfl T.law_take.m T.law_take.F.kp T.law_take.b .nil pass0 (pa_cons (pv 0) (pa_cons pe_int pa_nil))) (pa_cons (pe_op op_sub (pe_op op_shlC pe_int (pv 1)) pe_int) pa_nil))) (pg_tup rfl (pgs_cons (pg_name (i := 2) sc_law_marks.nd rfl (Or.inr rfl)) (pgs_cons (pg_name (i := 3) sc_law_marks.nd rfl (Or.inl rfl)) pgs_nil))))
      (pss_cons (ps_if (pt_cmpR op_eq (pv 2) pe_int (nomark _)) (pss_one (ps_ret (pe_call (ok_law_zero_marks T) (hr.mono (by decide)) rfl T.law_zero_marks.m T.law_zero_marks.F.kp T.law_zero_marks.b .nil pass0 (pa_cons (pv 0) (pa_cons (pv 1) pa_nil))))) pss_nil)
      (pss_cons (ps_if (pt_cmpR op_eq (pv 2) pe_int (nomark _)) (pss_cons (ps_set (i := 4) sc_law_marks.nd rfl (Or.inl rfl) (pe_op op_rep (pe_lst (pa_cons pe_int pa_nil)) (pv 3)))
      (pss_cons (ps_for PassesOwn.never rfl (pi_range1 rfl T.z_range (pa_cons (pe_op op_add pe_int (pe_call (ok_law_take T) (hr.mono (by decide)) rfl T.law_take.m T.law_take.F.kp T.law_take.b .nil pass0 (pa_cons (pv 0) (pa_cons pe_int pa_nil)))) pa_nil)) (pg_name (i := 5) sc_law_marks.nd rfl (Or.inl rfl)) (pss_one (ps_asg (pe_call (ok_law_take T) (hr.mono (by decide)) rfl T.law_take.m T.law_take.F.kp T.law_take.b .nil pass0 (pa_cons (pv 0) (pa_cons pe_int pa_nil))) (pg_sub (pv 4) (pe_call (ok_law_take T) (hr.mono (by decide)) rfl T.law_take.m T.law_take.F.kp T.law_take.b .nil pass0 (pa_cons (pv 0) (pa_cons (pv 3) pa_nil))) set_list))))
      (pss_one (ps_ret (pe_callTy call_tuple_of (by rfl) T.z_tuple (by decide +kernel) (pa_cons (pv 4) pa_nil)))))) pss_nil)
      (pss_one (ps_ret (pe_callTy call_tuple_of (by rfl) T.z_tuple (by decide +kernel) (pa_cons (pe_lc (own := [("_law_k", 6)]) (g := gName 6) (tt := tYes) rfl sc_law_marks.nd (pi_range1 rfl T.z_range (pa_cons (pv 3) pa_nil)) (blkOk_by (N := ["_law_tin", "_law_n_so", "_law_kind_so", "_law_size_so", "_law_found", "_law_lap", "_law_k"]) (sc := defScope s_law_marks) (by decide +kernel)) (fun _ _ _ _ _ => (pg_name (i := 6) sc_law_marks.nd rfl (Or.inl rfl))) (fun _ _ _ _ _ => pts_nil) (fun _ _ _ _ _ => (pe_call (ok_law_of T) (hr.mono (by decide)) rfl T.law_of.m T.law_of.F.kp T.law_of.b .nil pass0 (pa_cons (pv 0) (pa_cons (pe_ifExp (pt_cmpR op_eq (pv 2) pe_int (nomark _)) (pe_lst (pa_cons pe_int (pa_cons pe_int (pa_cons pe_int (pa_cons pe_int (pa_cons pe_int (pa_cons pe_int (pa_cons pe_int (pa_cons pe_int pa_nil))))))))) (pe_lst (pa_cons pe_int (pa_cons pe_int (pa_cons pe_int (pa_cons pe_int (pa_cons pe_int pa_nil))))))) pa_nil))))) pa_nil))))))), ?_⟩
    refine ⟨_, rfl, t, 4, c, rfl, hT, by omega, by decide, by decide, fun kd H1 q0 q1 k1 hT1 => ?_⟩
    refine ⟨_, rfl, 1, n, rfl, rfl, by decide, by omega, _, _, rfl, rfl, ?_⟩
    have esz : (((1 * 2 ^ n : Nat) : Int) - 1) = ((2 ^ n - 1 : Nat) : Int) := by omega
    dsimp only
    rw [esz]
    refine ⟨by show 2 ≤ sizeLine; decide, fun q hq => ⟨q, _, rfl, SqT.of upd_same, rfl, _, _, rfl, _, _, rfl, rfl, ?_⟩⟩
    have k1 := k1.trans (Keep.of (Same.new (o := .tup [.int kd, .int (2 ^ n - 1 : Nat)]) hq))
    have hT1 := hT1.same (Same.new (o := .tup [.int kd, .int (2 ^ n - 1 : Nat)]) hq)
    generalize upd H1 q (.tup [.int kd, .int (2 ^ n - 1 : Nat)]) = H1 at k1 hT1
    refine ⟨_, rfl, rfl, _, rfl, ?_⟩
    by_cases h3 : kd = 3
    · rw [decide_eq_true (show V.int kd = .int 3 by rw [h3])]
      refine ⟨_, rfl, _, rfl, t, n, _, rfl, hT1, by omega, hn1, hn, fun p ms H2 k2 hT2 hp hz => ?_⟩
      exact k p ms H2 (k1.trans k2) (hT2.mono (by omega)) hp hz.1 hz.2.1
    · rw [decide_eq_false (show ¬ V.int kd = .int 3 from fun z => h3 (V.int.inj z))]
      refine ⟨_, rfl, rfl, _, rfl, ?_⟩
      obtain ⟨tx, htx⟩ := hT1.at
      by_cases h0 : kd = 0
      · rw [decide_eq_true (show V.int kd = .int 0 by rw [h0])]
        refine ⟨by show 1 ≤ sizeLine; decide, fun l0 hl0 => ?_⟩
        refine ⟨_, rfl, l0, _, _, rfl, rfl, upd_same, by omega, by omega, ?_, fun f hf => ?_⟩
        · show 1 * _ ≤ _
          rw [sizeLine_eq]; omega
        have hfH : H1 f = none := Same.free (Same.new hl0) hf
        have ntf : t ≠ f := ne_of_none htx hfH
        have s0 : Same H1 (upd (upd H1 l0 (.lst [.int 0])) f (.lst (List.replicate (((2 ^ n - 1 : Nat) : Int)).toNat [V.int 0]).flatten)) := (Same.new hl0).trans (Same.new hf)
        have hf0 : upd (upd H1 l0 (.lst [.int 0])) f (.lst (List.replicate (((2 ^ n - 1 : Nat) : Int)).toNat [V.int 0]).flatten) f = some (.lst ((List.replicate (2 ^ n - 1) (0 : Int)).map V.int)) := by
          rw [upd_same, Int.toNat_natCast, rep_flat]
        generalize upd (upd H1 l0 (.lst [.int 0])) f (.lst (List.replicate (((2 ^ n - 1 : Nat) : Int)).toNat [V.int 0]).flatten) = H2 at s0 hf0
        refine ⟨_, rfl, t, 4, _, rfl, hT1.same s0, by omega, by decide, by decide, fun r H3 r0 r1 k3 hT3 => ?_⟩
        obtain ⟨r, rfl⟩ := Int.eq_ofNat_of_zero_le r0
        refine ⟨_, _, rfl, rfl, _, rfl, by omega, by omega, ?_⟩
        have hm : ((1 : Int) + (r : Nat)).toNat = r + 1 := by omega
        rw [hm]
        have k13 : Keep t H1 H3 := (Keep.of s0).trans k3
        have hf3 := k3 _ _ (Ne.symm ntf) hf0
        refine for_range (n := r + 1) (fun i σ H' => ∃ (v5 : Option V) (ms : List Int), σ = [some (.ref t), some (.int n), some (.int kd), some (.int (2 ^ n - 1 : Nat)), some (.ref f), v5, none] ∧ Keep t H1 H' ∧ Tin H' t (c + 2 + 2 * i) ∧ H' f = some (.lst (ms.map V.int)) ∧ ms.length = 2 ^ n - 1 ∧ In8 ms)
          ⟨none, _, rfl, k13, hT3.mono (by omega), hf3, List.length_replicate, (zero_start n).2.1⟩ ?_ ?_
        · rintro i σ H4 hi ⟨v5, ms, rfl, k4, hT4, hf4, hl4, hI4⟩
          refine ⟨_, rfl, t, 8, _, rfl, hT4, by omega, by decide, by decide, fun u H5 u0 u1 k5 hT5 => ?_⟩
          have hf5 := k5 _ _ (Ne.symm ntf) hf4
          refine ⟨_, rfl, _, rfl, _, rfl, t, (2 ^ n - 1 : Nat), _, rfl, hT5, by omega, by omega, by omega, fun j H6 j0 j1 k6 hT6 => ?_⟩
          obtain ⟨j, rfl⟩ := Int.eq_ofNat_of_zero_le j0
          have hf6 := k6 _ _ (Ne.symm ntf) hf5
          refine ⟨f, _, j, j, rfl, rfl, hf6, ixN_nat (by rw [List.length_map]; omega), ?_⟩
          refine ⟨_, ms.set j u, rfl, keep_new (k4.trans (k5.trans k6)) hfH Keep.upd, (hT6.keep Keep.upd ntf).mono (by push_cast; omega), by rw [upd_same, List.map_set], by rw [List.length_set]; exact hl4, in8_set hI4 u0 u1⟩
        · rintro σ H4 ⟨v5, ms, rfl, k4, hT4, hf4, hl4, hI4⟩
          refine ⟨_, rfl, f, _, rfl, .inl ⟨SqL.of hf4, fun p hp => ?_⟩⟩
          exact k p ms _ (k1.trans (k4.trans (Keep.of (Same.new hp)))) ((hT4.same (Same.new hp)).mono (by push_cast; omega)) (SqT.of upd_same) hl4 hI4
      · rw [decide_eq_false (show ¬ V.int kd = .int 0 from fun z => h0 (V.int.inj z))]
        refine ⟨_, rfl, _, rfl, by omega, by omega, fun D hD => ?_⟩
        rw [Int.toNat_natCast]
        have ntD : t ≠ D := ne_of_none htx hD
        refine lc_it (n := 2 ^ n - 1) walk_range (fun i H' => Keep t H1 H' ∧ Tin H' t (c + 1 + i) ∧ ∃ ms : List Int, H' D = some (.lst (ms.map V.int)) ∧ ms.length = i ∧ In8 ms) ⟨Keep.of (Same.new hD), (hT1.same (Same.new hD)).mono (by omega), [], upd_same, rfl, fun u hu => by cases hu⟩ (fun _ _ _ _ => trivial) ?_ ?_
        · rintro i x H3 H2 hi ⟨k2, hT2, ms, hD2, hl2, hI2⟩ ⟨rfl, rfl⟩
          obtain ⟨tx2, htx2⟩ := hT2.at
          have fin : ∀ (l : Addr) (ns : List Int), H2 l = none → 1 ≤ ns.length → ns.length ≤ 100 → In8 ns → ∀ vs : List V, vs = [.ref t, .ref l] → spOf K vs (upd H2 l (.lst (ns.map V.int))) (fun y H4 => ∃ acc, H4 D = some (.lst acc) ∧ acc.length < sizeLine ∧ (Keep t H1 (upd H4 D (.lst (acc ++ [y]))) ∧ Tin (upd H4 D (.lst (acc ++ [y]))) t (c + 1 + (i + 1 : Nat)) ∧ ∃ ms : List Int, (upd H4 D (.lst (acc ++ [y]))) D = some (.lst (ms.map V.int)) ∧ ms.length = i + 1 ∧ In8 ms)) E0 := by
            intro l ns hl n1 n2 hI vs ev
            have nlt : l ≠ t := fun z => by rw [z, htx2] at hl; cases hl
            refine ⟨t, l, ns.map V.int, _, ev, hT2.same (Same.new hl), by omega, SqL.of upd_same, nlt, by rw [List.length_map]; exact n1, by rw [List.length_map]; omega, fun j v H4 hv k4 hT4 => ?_⟩
            obtain ⟨u, hu, rfl⟩ := ints_pick hv
            obtain ⟨u0, u1⟩ := hI u hu
            have k24 : Keep t H2 H4 := (Keep.of (Same.new hl)).trans k4
            refine ⟨_, k24 _ _ (Ne.symm ntD) hD2, small16' (by rw [List.length_map]; omega), keep_new (k2.trans k24) hD Keep.upd, (hT4.keep Keep.upd ntD).mono (by push_cast; omega), ms ++ [u], ?_, ?_, in8_snoc hI2 u0 u1⟩
            · rw [upd_same, List.map_append]; rfl
            · rw [List.length_append, hl2]; rfl
          refine ⟨rfl, _, rfl, _, rfl, rfl, _, rfl, ?_⟩
          by_cases h1 : kd = 1
          · rw [decide_eq_true (show V.int kd = .int 1 by rw [h1])]
            exact ⟨by show 8 ≤ sizeLine; decide, fun l hl => fin l [1, 0, 7, 3, 2, 0, 5, 4] hl (by decide) (by decide) (by intro u hu; revert u; decide) _ rfl⟩
          · rw [decide_eq_false (show ¬ V.int kd = .int 1 from fun z => h1 (V.int.inj z))]
            exact ⟨by show 5 ≤ sizeLine; decide, fun l hl => fin l [0, 1, 1, 0, 1] hl (by decide) (by decide) (by intro u hu; revert u; decide) _ rfl⟩
        · rintro H2 ⟨k2, hT2, ms, hD2, hl2, hI2⟩
          refine ⟨D, _, rfl, .inl ⟨SqL.of hD2, fun p hp => ?_⟩⟩
          exact k p ms _ (k1.trans (k2.trans (Keep.of (Same.new hp)))) ((hT2.same (Same.new hp)).mono (by omega)) (SqT.of upd_same) hl2 hI2
end
end E8
set_option Elab.async false
set_option linter.all false
set_option maxRecDepth 100000
/-! D17: the same, by the law's own word. -/
namespace E8
open PySem PySem.Spec PyProof.Rows L2
theorem kit_bs {K : PySem.W.Frag} : PySem.W.kitAny K (.type "bool") [.type "bool", .type "str"] = some true ∧ PySem.W.kitAny K (.type "int") [.type "bool", .type "str"] = some false := by
  refine ⟨?_, ?_⟩
  · exact kitAny_cons (b := true) (kit_ty (by decide +kernel)) (fun z => nomatch z) fun _ => rfl
  · exact kitAny_cons (b := false) (kit_ty (by decide +kernel)) (fun _ => kitAny_cons (b := false) (kit_ty (by decide +kernel)) (fun _ => kitAny_nil) (fun z => nomatch z)) (fun z => nomatch z)
theorem cls_bs : Paired ClsV [V.ty "bool", V.ty "str"] [Value.type "bool", Value.type "str"] := .cons (.ty _) (.cons (.ty _) .nil)
theorem kit_nb {K : PySem.W.Frag} : PySem.W.kitOne K (.type "NoneType") (.type "bool") = some false := kit_ty (by decide +kernel)
theorem kit_bb {K : PySem.W.Frag} : PySem.W.kitOne K (.type "bool") (.type "bool") = some true := kit_ty (by decide +kernel)
theorem kit_ll {K : PySem.W.Frag} : PySem.W.kitOne K (.type "list") (.type "list") = some true := kit_ty (by decide +kernel)
theorem kit_lT {K : PySem.W.Frag} : PySem.W.kitOne K (.type "list") (.type "tuple") = some false := kit_ty (by decide +kernel)
theorem kit_Tl {K : PySem.W.Frag} : PySem.W.kitOne K (.type "tuple") (.type "list") = some false := kit_ty (by decide +kernel)
/-- None, a bool, an int, and lists and tuples of such -/
def Sm0 (x : PyData) : Prop := x = .none ∨ (∃ b, x = .bool b) ∨ ∃ i, x = .int i
def Sm : Nat → PyData → Prop
  | 0, x => Sm0 x
  | k + 1, x => Sm0 x ∨ ∃ ds, (x = .list ds ∨ x = .tuple ds) ∧ ds.length ≤ 1000 ∧ ∀ e ∈ ds, Sm k e
theorem Sm.of0 {k : Nat} {x : PyData} (h : Sm0 x) : Sm k x := by
  cases k with
  | zero => exact h
  | succ k => exact .inl h
section
variable {P : Program} {w : World} {K : PySem.W.Frag} {mg : Str → Option Value} {base : Heap}
def spSame (K : PySem.W.Frag) (k : Nat) : Sp := fun vs H Q _ => ∃ (g d : V) (x : PyData), vs = [g, d] ∧ Dp K H g x ∧ Dp K H d x ∧ Sm k x ∧ ∀ H', Same H H' → Q (.bl true) H'
theorem ok_same (T : Txt K mg) : ∀ k, k ≤ 3 → FnOk P w K mg base CX0 (k + 1) T.law_same.f T.law_same.fd ["_law_got", "_law_due"] (spSame K k)
  | 0, _ => by
    refine T.law_same.F.ok sc_law_same (fun vs H Q E h => ?_) (fun cdv A outer s H vs Q E hr h => ?_)
    · obtain ⟨g, d, x, rfl, _⟩ := h; rfl
    · obtain ⟨g, d, x, rfl, hg, hd, hS, k⟩ := h
      refine ⟨_, (pss_cons (ps_if (pt_val (pe_callB call_isiT (by rfl) T.z_isinstance (by decide +kernel) (pa_cons (pv 1) (pa_cons (pe_tup (pa_cons (pe_bltn (v := .ty "list") rfl T.z_list (by decide +kernel) rfl) (pa_cons (pe_bltn (v := .ty "tuple") rfl T.z_tuple (by decide +kernel) rfl) pa_nil))) pa_nil)))) (pss_cons (ps_if (PW.pt (pw_or (pt_cmpR op_ne (pe_callB call_isi (by rfl) T.z_isinstance (by decide +kernel) (pa_cons (pv 0) (pa_cons (pe_bltn (v := .ty "list") rfl T.z_list (by decide +kernel) rfl) pa_nil))) (pe_callB call_isi (by rfl) T.z_isinstance (by decide +kernel) (pa_cons (pv 1) (pa_cons (pe_bltn (v := .ty "list") rfl T.z_list (by decide +kernel) rfl) pa_nil))) (nomark _)) (pw_or1 (pt_cmpR op_ne (pe_callB call_isi (by rfl) T.z_isinstance (by decide +kernel) (pa_cons (pv 0) (pa_cons (pe_bltn (v := .ty "tuple") rfl T.z_tuple (by decide +kernel) rfl) pa_nil))) (pe_callB call_isi (by rfl) T.z_isinstance (by decide +kernel) (pa_cons (pv 1) (pa_cons (pe_bltn (v := .ty "tuple") rfl T.z_tuple (by decide +kernel) rfl) pa_nil))) (nomark _))))) (pss_one (ps_ret pe_bl)) pss_nil)
      (pss_one (ps_ret (pe_and (pe_cmpR op_eq (pe_callB call_lenC (by rfl) T.z_len (by decide +kernel) (pa_cons (pv 0) pa_nil)) (pe_callB call_lenC (by rfl) T.z_len (by decide +kernel) (pa_cons (pv 1) pa_nil)) (nomark _)) (pe_one (pe_callB (cr_all rfl) (by rfl) T.z_all (by decide +kernel) (pa_cons (pe_lc (own := [("_law_mine", 2), ("_law_its", 3)]) (g := gTup K 2 (gCons (gName 2) (gCons (gName 3) (gNil)))) (tt := tYes) rfl sc_law_same.nd (RZ.pi_zipA rfl T.z_zip (pa_cons (pv 0) (pa_cons (pv 1) pa_nil))) (blkOk_by (N := ["_law_got", "_law_due", "_law_mine", "_law_its"]) (sc := defScope s_law_same) (by decide +kernel)) (fun _ _ _ _ _ => (pg_tup rfl (pgs_cons (pg_name (i := 2) sc_law_same.nd rfl (Or.inl rfl)) (pgs_cons (pg_name (i := 3) sc_law_same.nd rfl (Or.inl rfl)) pgs_nil)))) (fun _ _ _ _ _ => pts_nil) (fun _ _ _ _ _ => (pe_never))) pa_nil))))))) pss_nil)
      (pss_cons (ps_if (PW.pt (pw_or (pt_cmpR op_isN (pv 1) pe_non (nomark _)) (pw_or1 (pt_val (pe_callB call_isiT (by rfl) T.z_isinstance (by decide +kernel) (pa_cons (pv 1) (pa_cons (pe_tup (pa_cons (pe_bltn (v := .ty "bool") rfl T.z_bool (by decide +kernel) rfl) (pa_cons (pe_bltn (v := .ty "str") rfl T.z_str (by decide +kernel) rfl) pa_nil))) pa_nil))))))) (pss_one (ps_ret (pe_and (pe_cmpR op_eq (pv 0) (pv 1) (nomark _)) (pe_and (pe_cmpR op_eq (pe_callB call_isi (by rfl) T.z_isinstance (by decide +kernel) (pa_cons (pv 0) (pa_cons (pe_bltn (v := .ty "bool") rfl T.z_bool (by decide +kernel) rfl) pa_nil))) (pe_callB call_isi (by rfl) T.z_isinstance (by decide +kernel) (pa_cons (pv 1) (pa_cons (pe_bltn (v := .ty "bool") rfl T.z_bool (by decide +kernel) rfl) pa_nil))) (nomark _)) (pe_one (pe_cmpR op_eq (pe_cmpR op_isN (pv 0) pe_non (nomark _)) (pe_cmpR op_isN (pv 1) pe_non (nomark _)) (nomark _))))))) pss_nil)
      (pss_one (ps_ret (pe_and (pe_callB call_isi (by rfl) T.z_isinstance (by decide +kernel) (pa_cons (pv 0) (pa_cons (pe_bltn (v := .ty "int") rfl T.z_int (by decide +kernel) rfl) pa_nil))) (pe_and (pe_not (pe_callB call_isi (by rfl) T.z_isinstance (by decide +kernel) (pa_cons (pv 0) (pa_cons (pe_bltn (v := .ty "bool") rfl T.z_bool (by decide +kernel) rfl) pa_nil)))) (pe_one (pe_cmpR op_eq (pv 0) (pv 1) (nomark _))))))))), ?_⟩
      refine ⟨_, rfl, by show 2 ≤ sizeLine; decide, fun t ht => ?_⟩
      have st : Same H (upd H t (.tup [.ty "list", .ty "tuple"])) := Same.new ht
      rcases hS with rfl | ⟨b, rfl⟩ | ⟨i, rfl⟩
      · cases hg
        cases hd
        refine ⟨_, t, _, _, _, false, rfl, upd_same, cls_lt, .base .non, kit_lt.2.2.2.2, false, rfl, ?_⟩
        refine ⟨_, rfl, rfl, true, rfl, ?_⟩
        refine ⟨_, rfl, _, rfl, rfl, true, rfl, ?_⟩
        refine ⟨_, rfl, _, _, _, _, false, rfl, .ty _, .base .non, kit_nb, _, rfl, _, _, _, _, false, rfl, .ty _, .base .non, kit_nb, rfl, true, rfl, ?_⟩
        exact ⟨_, rfl, rfl, _, rfl, rfl, rfl, k _ st⟩
      · cases hg
        cases hd
        refine ⟨_, t, _, _, _, false, rfl, upd_same, cls_lt, .base (.bl b), kit_lt.2.2.2.1, false, rfl, ?_⟩
        refine ⟨_, rfl, rfl, false, rfl, ?_⟩
        refine ⟨_, rfl, by show 2 ≤ sizeLine; decide, fun t2 ht2 => ?_⟩
        refine ⟨_, t2, _, _, _, true, rfl, upd_same, cls_bs, .base (.bl b), kit_bs.1, true, rfl, ?_⟩
        have eb : decide (V.bl b = V.bl b) = true := decide_eq_true rfl
        refine ⟨_, rfl, _, rfl, (by cases b <;> rfl), true, congrArg V.bl eb, ?_⟩
        refine ⟨_, rfl, _, _, _, _, true, rfl, .ty _, .base (.bl b), kit_bb, _, rfl, _, _, _, _, true, rfl, .ty _, .base (.bl b), kit_bb, rfl, true, rfl, ?_⟩
        exact ⟨_, rfl, rfl, _, rfl, rfl, rfl, k _ (st.trans (Same.new ht2))⟩
      · cases hg
        cases hd
        refine ⟨_, t, _, _, _, false, rfl, upd_same, cls_lt, .base (.int i), kit_lt.2.2.1, false, rfl, ?_⟩
        refine ⟨_, rfl, rfl, false, rfl, ?_⟩
        refine ⟨_, rfl, by show 2 ≤ sizeLine; decide, fun t2 ht2 => ?_⟩
        refine ⟨_, t2, _, _, _, false, rfl, upd_same, cls_bs, .base (.int i), kit_bs.2, false, rfl, ?_⟩
        refine ⟨_, rfl, _, _, _, _, true, rfl, .ty _, .base (.int i), kit_ii, true, rfl, ?_⟩
        refine ⟨_, rfl, _, _, _, _, false, rfl, .ty _, .base (.int i), kit_ib, false, rfl, _, rfl, ?_⟩
        have eb : decide (V.int i = V.int i) = true := decide_eq_true rfl
        refine ⟨_, rfl, _, rfl, rfl, ?_⟩
        rw [eb]
        exact k _ (st.trans (Same.new ht2))
  | k + 1, hk => by
    have G := ok_same T k (by omega)
    refine T.law_same.F.ok sc_law_same (fun vs H Q E h => ?_) (fun cdv A outer s H vs Q E hr h => ?_)
    · obtain ⟨g, d, x, rfl, _⟩ := h; rfl
    · obtain ⟨g, d, x, rfl, hg, hd, hS, kk⟩ := h
      refine ⟨_, (pss_cons (ps_if (pt_val (pe_callB call_isiT (by rfl) T.z_isinstance (by decide +kernel) (pa_cons (pv 1) (pa_cons (pe_tup (pa_cons (pe_bltn (v := .ty "list") rfl T.z_list (by decide +kernel) rfl) (pa_cons (pe_bltn (v := .ty "tuple") rfl T.z_tuple (by decide +kernel) rfl) pa_nil))) pa_nil)))) (pss_cons (ps_if (PW.pt (pw_or (pt_cmpR op_ne (pe_callB call_isi (by rfl) T.z_isinstance (by decide +kernel) (pa_cons (pv 0) (pa_cons (pe_bltn (v := .ty "list") rfl T.z_list (by decide +kernel) rfl) pa_nil))) (pe_callB call_isi (by rfl) T.z_isinstance (by decide +kernel) (pa_cons (pv 1) (pa_cons (pe_bltn (v := .ty "list") rfl T.z_list (by decide +kernel) rfl) pa_nil))) (nomark _)) (pw_or1 (pt_cmpR op_ne (pe_callB call_isi (by rfl) T.z_isinstance (by decide +kernel) (pa_cons (pv 0) (pa_cons (pe_bltn (v := .ty "tuple") rfl T.z_tuple (by decide +kernel) rfl) pa_nil))) (pe_callB call_isi (by rfl) T.z_isinstance (by decide +kernel) (pa_cons (pv 1) (pa_cons (pe_bltn (v := .ty "tuple") rfl T.z_tuple (by decide +kernel) rfl) pa_nil))) (nomark _))))) (pss_one (ps_ret pe_bl)) pss_nil)
      (pss_one (ps_ret (pe_and (pe_cmpR op_eq (pe_callB call_lenC (by rfl) T.z_len (by decide +kernel) (pa_cons (pv 0) pa_nil)) (pe_callB call_lenC (by rfl) T.z_len (by decide +kernel) (pa_cons (pv 1) pa_nil)) (nomark _)) (pe_one (pe_callB (cr_all rfl) (by rfl) T.z_all (by decide +kernel) (pa_cons (pe_lc (own := [("_law_mine", 2), ("_law_its", 3)]) (g := gTup K 2 (gCons (gName 2) (gCons (gName 3) (gNil)))) (tt := tYes) rfl sc_law_same.nd (RZ.pi_zipA rfl T.z_zip (pa_cons (pv 0) (pa_cons (pv 1) pa_nil))) (blkOk_by (N := ["_law_got", "_law_due", "_law_mine", "_law_its"]) (sc := defScope s_law_same) (by decide +kernel)) (fun _ _ _ _ _ => (pg_tup rfl (pgs_cons (pg_name (i := 2) sc_law_same.nd rfl (Or.inl rfl)) (pgs_cons (pg_name (i := 3) sc_law_same.nd rfl (Or.inl rfl)) pgs_nil)))) (fun _ _ _ _ _ => pts_nil) (fun _ _ _ _ _ => (pe_call G hr rfl T.law_same.m T.law_same.F.kp T.law_same.b .nil pass0 (pa_cons (pv 2) (pa_cons (pv 3) pa_nil))))) pa_nil))))))) pss_nil)
      (pss_cons (ps_if (PW.pt (pw_or (pt_cmpR op_isN (pv 1) pe_non (nomark _)) (pw_or1 (pt_val (pe_callB call_isiT (by rfl) T.z_isinstance (by decide +kernel) (pa_cons (pv 1) (pa_cons (pe_tup (pa_cons (pe_bltn (v := .ty "bool") rfl T.z_bool (by decide +kernel) rfl) (pa_cons (pe_bltn (v := .ty "str") rfl T.z_str (by decide +kernel) rfl) pa_nil))) pa_nil))))))) (pss_one (ps_ret (pe_and (pe_cmpR op_eq (pv 0) (pv 1) (nomark _)) (pe_and (pe_cmpR op_eq (pe_callB call_isi (by rfl) T.z_isinstance (by decide +kernel) (pa_cons (pv 0) (pa_cons (pe_bltn (v := .ty "bool") rfl T.z_bool (by decide +kernel) rfl) pa_nil))) (pe_callB call_isi (by rfl) T.z_isinstance (by decide +kernel) (pa_cons (pv 1) (pa_cons (pe_bltn (v := .ty "bool") rfl T.z_bool (by decide +kernel) rfl) pa_nil))) (nomark _)) (pe_one (pe_cmpR op_eq (pe_cmpR op_isN (pv 0) pe_non (nomark _)) (pe_cmpR op_isN (pv 1) pe_non (nomark _)) (nomark _))))))) pss_nil)
      (pss_one (ps_ret (pe_and (pe_callB call_isi (by rfl) T.z_isinstance (by decide +kernel) (pa_cons (pv 0) (pa_cons (pe_bltn (v := .ty "int") rfl T.z_int (by decide +kernel) rfl) pa_nil))) (pe_and (pe_not (pe_callB call_isi (by rfl) T.z_isinstance (by decide +kernel) (pa_cons (pv 0) (pa_cons (pe_bltn (v := .ty "bool") rfl T.z_bool (by decide +kernel) rfl) pa_nil)))) (pe_one (pe_cmpR op_eq (pv 0) (pv 1) (nomark _))))))))), ?_⟩
      rcases hS with hS | ⟨ds, hds, hlen, hall⟩
      · have k := kk
        refine ⟨_, rfl, by show 2 ≤ sizeLine; decide, fun t ht => ?_⟩
        have st : Same H (upd H t (.tup [.ty "list", .ty "tuple"])) := Same.new ht
        rcases hS with rfl | ⟨b, rfl⟩ | ⟨i, rfl⟩
        · cases hg
          cases hd
          refine ⟨_, t, _, _, _, false, rfl, upd_same, cls_lt, .base .non, kit_lt.2.2.2.2, false, rfl, ?_⟩
          refine ⟨_, rfl, rfl, true, rfl, ?_⟩
          refine ⟨_, rfl, _, rfl, rfl, true, rfl, ?_⟩
          refine ⟨_, rfl, _, _, _, _, false, rfl, .ty _, .base .non, kit_nb, _, rfl, _, _, _, _, false, rfl, .ty _, .base .non, kit_nb, rfl, true, rfl, ?_⟩
          exact ⟨_, rfl, rfl, _, rfl, rfl, rfl, k _ st⟩
        · cases hg
          cases hd
          refine ⟨_, t, _, _, _, false, rfl, upd_same, cls_lt, .base (.bl b), kit_lt.2.2.2.1, false, rfl, ?_⟩
          refine ⟨_, rfl, rfl, false, rfl, ?_⟩
          refine ⟨_, rfl, by show 2 ≤ sizeLine; decide, fun t2 ht2 => ?_⟩
          refine ⟨_, t2, _, _, _, true, rfl, upd_same, cls_bs, .base (.bl b), kit_bs.1, true, rfl, ?_⟩
          have eb : decide (V.bl b = V.bl b) = true := decide_eq_true rfl
          refine ⟨_, rfl, _, rfl, (by cases b <;> rfl), true, congrArg V.bl eb, ?_⟩
          refine ⟨_, rfl, _, _, _, _, true, rfl, .ty _, .base (.bl b), kit_bb, _, rfl, _, _, _, _, true, rfl, .ty _, .base (.bl b), kit_bb, rfl, true, rfl, ?_⟩
          exact ⟨_, rfl, rfl, _, rfl, rfl, rfl, k _ (st.trans (Same.new ht2))⟩
        · cases hg
          cases hd
          refine ⟨_, t, _, _, _, false, rfl, upd_same, cls_lt, .base (.int i), kit_lt.2.2.1, false, rfl, ?_⟩
          refine ⟨_, rfl, rfl, false, rfl, ?_⟩
          refine ⟨_, rfl, by show 2 ≤ sizeLine; decide, fun t2 ht2 => ?_⟩
          refine ⟨_, t2, _, _, _, false, rfl, upd_same, cls_bs, .base (.int i), kit_bs.2, false, rfl, ?_⟩
          refine ⟨_, rfl, _, _, _, _, true, rfl, .ty _, .base (.int i), kit_ii, true, rfl, ?_⟩
          refine ⟨_, rfl, _, _, _, _, false, rfl, .ty _, .base (.int i), kit_ib, false, rfl, _, rfl, ?_⟩
          have eb : decide (V.int i = V.int i) = true := decide_eq_true rfl
          refine ⟨_, rfl, _, rfl, rfl, ?_⟩
          rw [eb]
          exact k _ (st.trans (Same.new ht2))
      · refine ⟨_, rfl, by show 2 ≤ sizeLine; decide, fun t ht => ?_⟩
        have st : Same H (upd H t (.tup [.ty "list", .ty "tuple"])) := Same.new ht
        rcases hds with rfl | rfl
        · cases hg with
          | lst hgs hga =>
          cases hd with
          | lst hds hda =>
            have gS := Same.seq st hgs
            have dS := Same.seq st hds
            have gA := DpAll.same st _ _ hga
            have dA := DpAll.same st _ _ hda
            refine ⟨_, t, _, _, _, true, rfl, upd_same, cls_lt, tyx_lst dS, kit_lt.1, true, rfl, ?_⟩
            refine ⟨_, rfl, _, _, _, _, true, rfl, .ty _, tyx_lst gS, kit_ll, _, rfl, _, _, _, _, true, rfl, .ty _, tyx_lst dS, kit_ll, rfl, false, rfl, ?_⟩
            refine ⟨_, rfl, _, _, _, _, false, rfl, .ty _, tyx_lst gS, kit_lT, _, rfl, _, _, _, _, false, rfl, .ty _, tyx_lst dS, kit_lT, rfl, false, rfl, ?_⟩
            have l1 := DpAll.len gA
            have l2 := DpAll.len dA
            refine ⟨_, rfl, _, _, rfl, .inl gS, _, rfl, _, _, rfl, .inl dS, rfl, true, congrArg V.bl (decide_eq_true (by rw [l1, l2])), ?_⟩
            refine ⟨_, rfl, _, rfl, _, _, _, _, rfl, .inl ⟨gS, dS, fun D hD => ?_⟩⟩
            refine lc_pure (n := ds.length) (walk_zip (by omega)) (fun i => (List.replicate i true).map V.bl) (by omega) hD rfl (fun i _ => by simp) (fun H1 e => ⟨Same.seq e gS, Same.seq e dS⟩) ?_ ?_
            · rintro i v H1 H2 hi sm ⟨T1, b1, b2, rfl, hnn, rfl, e1, e2⟩ yes no ky kn
              obtain ⟨d1, f1, g1⟩ := DpAll.get gA e1
              obtain ⟨d2, f2, g2⟩ := DpAll.get dA e2
              rw [f1] at f2
              cases f2
              refine ⟨T1, _, rfl, SqT.of upd_same, rfl, _, _, rfl, _, _, rfl, rfl, rfl, ?_⟩
              have s2 := sm.trans (Same.new (o := .tup [b1, b2]) hnn)
              refine ⟨_, rfl, _, rfl, b1, b2, d1, rfl, Dp.same s2 _ _ g1, Dp.same s2 _ _ g2, hall d1 (List.mem_of_getElem? f1), fun H3 s3 => ky _ _ ((Same.new hnn).trans s3) ?_⟩
              rw [List.replicate_succ', List.map_append]
              rfl
            · intro H1 e1 e2
              refine ⟨D, _, rfl, SqL.of e2, ?_⟩
              have : (List.replicate ds.length true).all id = true := by simp
              rw [this]
              exact kk H1 (st.trans e1)
        · cases hg with
          | tup hgs hga =>
          cases hd with
          | tup hds hda =>
            have gS := Same.tup st hgs
            have dS := Same.tup st hds
            have gA := DpAll.same st _ _ hga
            have dA := DpAll.same st _ _ hda
            refine ⟨_, t, _, _, _, true, rfl, upd_same, cls_lt, tyx_tup dS, kit_lt.2.1, true, rfl, ?_⟩
            refine ⟨_, rfl, _, _, _, _, false, rfl, .ty _, tyx_tup gS, kit_Tl, _, rfl, _, _, _, _, false, rfl, .ty _, tyx_tup dS, kit_Tl, rfl, false, rfl, ?_⟩
            refine ⟨_, rfl, _, _, _, _, true, rfl, .ty _, tyx_tup gS, kit_tt, _, rfl, _, _, _, _, true, rfl, .ty _, tyx_tup dS, kit_tt, rfl, false, rfl, ?_⟩
            have l1 := DpAll.len gA
            have l2 := DpAll.len dA
            refine ⟨_, rfl, _, _, rfl, .inr gS, _, rfl, _, _, rfl, .inr dS, rfl, true, congrArg V.bl (decide_eq_true (by rw [l1, l2])), ?_⟩
            refine ⟨_, rfl, _, rfl, _, _, _, _, rfl, .inr ⟨gS, dS, fun D hD => ?_⟩⟩
            refine lc_pure (n := ds.length) (walk_zipT (by omega)) (fun i => (List.replicate i true).map V.bl) (by omega) hD rfl (fun i _ => by simp) (fun H1 e => ⟨Same.tup e gS, Same.tup e dS⟩) ?_ ?_
            · rintro i v H1 H2 hi sm ⟨T1, b1, b2, rfl, hnn, rfl, e1, e2⟩ yes no ky kn
              obtain ⟨d1, f1, g1⟩ := DpAll.get gA e1
              obtain ⟨d2, f2, g2⟩ := DpAll.get dA e2
              rw [f1] at f2
              cases f2
              refine ⟨T1, _, rfl, SqT.of upd_same, rfl, _, _, rfl, _, _, rfl, rfl, rfl, ?_⟩
              have s2 := sm.trans (Same.new (o := .tup [b1, b2]) hnn)
              refine ⟨_, rfl, _, rfl, b1, b2, d1, rfl, Dp.same s2 _ _ g1, Dp.same s2 _ _ g2, hall d1 (List.mem_of_getElem? f1), fun H3 s3 => ky _ _ ((Same.new hnn).trans s3) ?_⟩
              rw [List.replicate_succ', List.map_append]
              rfl
            · intro H1 e1 e2
              refine ⟨D, _, rfl, SqL.of e2, ?_⟩
              have : (List.replicate ds.length true).all id = true := by simp
              rw [this]
              exact kk H1 (st.trans e1)
end
end E8
set_option Elab.async false
set_option linter.all false
set_option maxRecDepth 100000
/-! D18: lists of data, an uneven sum told or not. -/
namespace E8
open PySem PySem.Spec PyProof.Rows L2
/-- an int, or a tuple of ints -/
def InR (K : PySem.W.Frag) (H : Hp) (x : V) : Int ⊕ List Int → Prop
  | .inl i => x = .int i
  | .inr ns => ∃ b, x = .ref b ∧ SqT K H b (ns.map V.int) ∧ ns.length ≤ 1000
/-- the same as a list, newly made -/
def OutN (H H' : Hp) (y : V) : Int ⊕ List Int → Prop
  | .inl i => y = .int i
  | .inr ns => ∃ p, y = .ref p ∧ H p = none ∧ H' p = some (.lst (ns.map V.int))
/-- .. apart from D -/
def OutD (D : Addr) (H' : Hp) (y : V) : Int ⊕ List Int → Prop
  | .inl i => y = .int i
  | .inr ns => ∃ p, y = .ref p ∧ p ≠ D ∧ H' p = some (.lst (ns.map V.int))
section
variable {P : Program} {w : World} {K : PySem.W.Frag} {mg : Str → Option Value} {base : Heap}
def spLs0 : Sp := fun vs H Q _ => ∃ i : Int, vs = [.int i] ∧ ∀ H', Same H H' → Q (.int i) H'
def spLs1 (K : PySem.W.Frag) : Sp := fun vs H Q _ => ∃ (v : V) (d : Int ⊕ List Int), vs = [v] ∧ InR K H v d ∧ ∀ y H', Same H H' → OutN H H' y d → Q y H'
def spLs2 (K : PySem.W.Frag) : Sp := fun vs H Q _ => ∃ (a : Addr) (xs : List V) (ds : List (Int ⊕ List Int)), vs = [.ref a] ∧ SqT K H a xs ∧ xs.length = ds.length ∧ ds.length ≤ 1000 ∧ (∀ (j : Nat) (x : V) (d : Int ⊕ List Int), xs[j]? = some x → ds[j]? = some d → InR K H x d) ∧
  ∀ p ys H', Same H H' → H' p = some (.lst ys) → ys.length = ds.length → (∀ (j : Nat) (y : V) (d : Int ⊕ List Int), ys[j]? = some y → ds[j]? = some d → OutD p H' y d) → Q (.ref p) H'
theorem ok_lists0 (T : Txt K mg) : FnOk P w K mg base CX0 1 T.law_lists.f T.law_lists.fd ["_law_matter"] spLs0 := by
  refine T.law_lists.F.ok sc_law_lists (fun vs H Q E h => ?_) (fun cdv A outer s H vs Q E hr h => ?_)
  · obtain ⟨i, rfl, _⟩ := h; rfl
  · obtain ⟨i, rfl, k⟩ := h
    refine ⟨_, (pss_one (ps_ret (pe_ifExp (pt_val (pe_callB call_isiT (by rfl) T.z_isinstance (by decide +kernel) (pa_cons (pv 0) (pa_cons (pe_tup (pa_cons (pe_bltn (v := .ty "list") rfl T.z_list (by decide +kernel) rfl) (pa_cons (pe_bltn (v := .ty "tuple") rfl T.z_tuple (by decide +kernel) rfl) pa_nil))) pa_nil)))) (pe_never) (pv 0)))), ?_⟩
    exact ⟨_, rfl, by show 2 ≤ sizeLine; decide, fun t ht => ⟨_, t, _, _, _, false, rfl, upd_same, cls_lt, .base (.int i), kit_lt.2.2.1, false, rfl, _, rfl, k _ (Same.new ht)⟩⟩
theorem ok_lists1 (T : Txt K mg) : FnOk P w K mg base CX0 2 T.law_lists.f T.law_lists.fd ["_law_matter"] (spLs1 K) := by
  have G := ok_lists0 (P := P) (w := w) (base := base) T
  refine T.law_lists.F.ok sc_law_lists (fun vs H Q E h => ?_) (fun cdv A outer s H vs Q E hr h => ?_)
  · obtain ⟨v, d, rfl, _⟩ := h; rfl
  · obtain ⟨v, d, rfl, hv, k⟩ := h
    refine ⟨_, (pss_one (ps_ret (pe_ifExp (pt_val (pe_callB call_isiT (by rfl) T.z_isinstance (by decide +kernel) (pa_cons (pv 0) (pa_cons (pe_tup (pa_cons (pe_bltn (v := .ty "list") rfl T.z_list (by decide +kernel) rfl) (pa_cons (pe_bltn (v := .ty "tuple") rfl T.z_tuple (by decide +kernel) rfl) pa_nil))) pa_nil)))) (pe_lc (own := [("_law_bit", 1)]) (g := gName 1) (tt := tYes) rfl sc_law_lists.nd (pi_tup (pv 0)) (blkOk_by (N := ["_law_matter", "_law_bit"]) (sc := defScope s_law_lists) (by decide +kernel)) (fun _ _ _ _ _ => (pg_name (i := 1) sc_law_lists.nd rfl (Or.inl rfl))) (fun _ _ _ _ _ => pts_nil) (fun _ _ _ _ _ => (pe_call G hr rfl T.law_lists.m T.law_lists.F.kp T.law_lists.b .nil pass0 (pa_cons (pv 1) pa_nil)))) (pv 0)))), ?_⟩
    refine ⟨_, rfl, by show 2 ≤ sizeLine; decide, fun t ht => ?_⟩
    have st : Same H (upd H t (.tup [.ty "list", .ty "tuple"])) := Same.new ht
    cases d with
    | inl i =>
      cases hv
      exact ⟨_, t, _, _, _, false, rfl, upd_same, cls_lt, .base (.int i), kit_lt.2.2.1, false, rfl, _, rfl, k _ _ st rfl⟩
    | inr ns =>
      obtain ⟨b, rfl, hS, hl⟩ := hv
      have hS1 := Same.tup st hS
      refine ⟨_, t, _, _, _, true, rfl, upd_same, cls_lt, tyx_tup hS1, kit_lt.2.1, true, rfl, ?_⟩
      refine ⟨_, rfl, b, rfl, ⟨_, hS1⟩, fun D hD => ?_⟩
      refine lc_pure walk_tup (fun i => (ns.take i).map V.int) (by rw [List.length_map]; omega) hD rfl (fun i _ => by rw [List.length_map, List.length_take]; omega) (fun H1 e => Same.tup e hS1) ?_ ?_
      · rintro i x H1 H2 hi sm ⟨rfl, hx⟩ yes no ky kn
        obtain ⟨rfl, hi2⟩ := ints_at hx
        refine ⟨rfl, _, rfl, ns.getD i 0, rfl, fun H3 s3 => ky _ _ s3 ?_⟩
        rw [List.take_succ_eq_append_getElem hi2, List.map_append, List.getD_eq_getElem?_getD, List.getElem?_eq_getElem hi2]
        rfl
      · intro H1 e1 e2
        rw [List.length_map, List.take_length] at e2
        exact k _ H1 (st.trans e1) ⟨D, rfl, Same.free st hD, e2⟩
theorem ok_lists2 (T : Txt K mg) : FnOk P w K mg base CX0 3 T.law_lists.f T.law_lists.fd ["_law_matter"] (spLs2 K) := by
  have G := ok_lists1 (P := P) (w := w) (base := base) T
  refine T.law_lists.F.ok sc_law_lists (fun vs H Q E h => ?_) (fun cdv A outer s H vs Q E hr h => ?_)
  · obtain ⟨a, xs, ds, rfl, _⟩ := h; rfl
  · obtain ⟨a, xs, ds, rfl, hS, hl, hl2, hin, k⟩ := h
    refine ⟨_, (pss_one (ps_ret (pe_ifExp (pt_val (pe_callB call_isiT (by rfl) T.z_isinstance (by decide +kernel) (pa_cons (pv 0) (pa_cons (pe_tup (pa_cons (pe_bltn (v := .ty "list") rfl T.z_list (by decide +kernel) rfl) (pa_cons (pe_bltn (v := .ty "tuple") rfl T.z_tuple (by decide +kernel) rfl) pa_nil))) pa_nil)))) (pe_lc (own := [("_law_bit", 1)]) (g := gName 1) (tt := tYes) rfl sc_law_lists.nd (pi_tup (pv 0)) (blkOk_by (N := ["_law_matter", "_law_bit"]) (sc := defScope s_law_lists) (by decide +kernel)) (fun _ _ _ _ _ => (pg_name (i := 1) sc_law_lists.nd rfl (Or.inl rfl))) (fun _ _ _ _ _ => pts_nil) (fun _ _ _ _ _ => (pe_call G hr rfl T.law_lists.m T.law_lists.F.kp T.law_lists.b .nil pass0 (pa_cons (pv 1) pa_nil)))) (pv 0)))), ?_⟩
    refine ⟨_, rfl, by show 2 ≤ sizeLine; decide, fun t ht => ?_⟩
    have st : Same H (upd H t (.tup [.ty "list", .ty "tuple"])) := Same.new ht
    have hS1 := Same.tup st hS
    refine ⟨_, t, _, _, _, true, rfl, upd_same, cls_lt, tyx_tup hS1, kit_lt.2.1, true, rfl, ?_⟩
    refine ⟨_, rfl, a, rfl, ⟨_, hS1⟩, fun D hD => ?_⟩
    generalize upd H t (.tup [.ty "list", .ty "tuple"]) = H0 at st hS1 hD
    refine lc_it walk_tup (fun i H1 => Same H0 H1 ∧ ∃ ys, H1 D = some (.lst ys) ∧ ys.length = i ∧ ∀ (j : Nat) (y : V) (d : Int ⊕ List Int), ys[j]? = some y → ds[j]? = some d → OutD D H1 y d) ⟨Same.new hD, [], upd_same, rfl, fun j y d e => by simp at e⟩ (fun i H1 _ p => Same.tup p.1 hS1) ?_ ?_
    · rintro i x H2 H1 hi ⟨s1, ys, hy, hyl, hout⟩ ⟨rfl, hx⟩
      have hd : ∃ d, ds[i]? = some d := ⟨ds[i]'(by omega), List.getElem?_eq_getElem (by omega)⟩
      obtain ⟨d, hd⟩ := hd
      have hr1 : InR K H1 x d := by
        have := hin i x d hx hd
        cases d with
        | inl i => exact this
        | inr ns =>
          obtain ⟨b, e1, e2, e3⟩ := this
          exact ⟨b, e1, Same.tup (st.trans s1) e2, e3⟩
      refine ⟨rfl, x, rfl, x, d, rfl, hr1, fun y H3 s3 ho => ?_⟩
      have hy3 := s3 _ _ hy
      refine ⟨ys, hy3, small16' (by omega), Same.mut (s1.trans s3) hD, _, upd_same, by rw [List.length_append, hyl]; rfl, fun j y' d' hj hdj => ?_⟩
      by_cases hji : j < ys.length
      · rw [List.getElem?_append_left hji] at hj
        have := hout j y' d' hj hdj
        cases d' with
        | inl i => exact this
        | inr ns =>
          obtain ⟨p, e1, e2, e3⟩ := this
          exact ⟨p, e1, e2, by rw [upd_ne e2]; exact s3 _ _ e3⟩
      · have hj2 : j = ys.length := by
          have := (List.getElem?_eq_some_iff.mp hj).1
          rw [List.length_append] at this
          simp at this
          omega
        subst hj2
        rw [List.getElem?_append_right (Nat.le_refl _), Nat.sub_self] at hj
        cases Option.some.inj hj
        rw [hyl, hd] at hdj
        cases hdj
        cases d with
        | inl i => exact ho
        | inr ns =>
          obtain ⟨p, e1, e2, e3⟩ := ho
          have np : p ≠ D := fun z => by rw [z, hy] at e2; cases e2
          exact ⟨p, e1, np, by rw [upd_ne np]; exact e3⟩
    · rintro H1 ⟨s1, ys, hy, hyl, hout⟩
      exact k D ys H1 (st.trans s1) hy (by omega) hout
/-- an uneven sum as the program tells it, or None -/
def DueR (K : PySem.W.Frag) (n : Nat) (ms : List Int) (H : Hp) (v : V) : Option (List Nat) → Prop
  | none => v = .non
  | some lot => ∃ p c, v = .ref p ∧ SqT K H p [.ref c, .int (restM n ms lot)] ∧ SqT K H c (lotV lot)
def spSt (K : PySem.W.Frag) : Sp := fun vs H Q _ => ∃ (a : Addr) (ms : List Int) (n : Nat), vs = [.ref a] ∧ SqT K H a (ms.map V.int) ∧ ms.length = 2 ^ n - 1 ∧ n ≤ 5 ∧ ∀ v H', Same H H' → DueR K n ms H' v (firstSum n ms) → Q v H'
theorem ok_law_sum_told (T : Txt K mg) : FnOk P w K mg base CX0 6 T.law_sum_told.f T.law_sum_told.fd ["_law_marks_so"] (spSt K) := by
  refine T.law_sum_told.F.ok sc_law_sum_told (fun vs H Q E h => ?_) (fun cdv A outer s H vs Q E hr h => ?_)
  · obtain ⟨a, ms, n, rfl, _⟩ := h; rfl
  · obtain ⟨a, ms, n, rfl, hT, hl, hn, k⟩ := h
    refine ⟨_, pss_cons (ps_set (i := 1) sc_law_sum_told.nd rfl (Or.inl rfl) pe_str)
      (pss_cons (ps_try_only (c := .ref T.NP) (tb := fun W => tAsg (tCallS (spUs K T.NP) (WE W) (tCons (tVar 0) tNil)) (gName 1)) (ts := fun _ _ _ => tAsg (tC .non) (gName 1)) (Wout := fun _ _ _ _ => False) rfl rfl ⟨rfl, by decide, Or.inl T.gNP⟩ takes0
          (fun W pn xe tk _ => pss_one (ps_set (i := 1) sc_law_sum_told.nd rfl (Or.inl rfl) (pe_callS (ok_uneven_sum T) (hr.mono (by decide)) rfl T.uneven_sum.m T.uneven_sum.F.kp T.uneven_sum.b (fun σ => passAt tk σ) (pa_cons (pv 0) pa_nil))))
          (fun _ _ _ _ _ _ _ => pss_one (ps_set (i := 1) sc_law_sum_told.nd rfl (Or.inl rfl) pe_non)))
      (pss_one (ps_ret (pv 1)))), ?_⟩
    refine ⟨_, rfl, a, ms, n, rfl, .inr hT, hl, hn, fun lot e p c H' s' hp hc => ⟨_, rfl, k _ H' s' (by rw [e]; exact ⟨p, c, rfl, hp, hc⟩)⟩, fun e H' s' => ⟨true, T.eNP, fun _ b hb => ⟨_, rfl, k _ H' s' (by rw [e]; rfl)⟩, fun z => by cases z⟩⟩
end
end E8
set_option Elab.async false
set_option linter.all false
set_option maxRecDepth 100000
/-! D19: the law's word on sums. -/
namespace E8
open PySem PySem.Spec PyProof.Rows L2
theorem fold_find {α : Type} (p : α → Bool) : ∀ l : List α, l.reverse.foldl (fun d x => if p x = true then some x else d) none = l.find? p := fun l => by
  rw [List.foldl_reverse]
  induction l with
  | nil => rfl
  | cons x l ih =>
    rw [List.foldr_cons, ih, List.find?_cons]
    cases p x <;> rfl
def dueM (n : Nat) (ms : List Int) (ls : List (List Nat)) : Option (List Nat) := ls.foldl (fun d x => if decide (restM n ms x ≠ 0) = true then some x else d) none
theorem dueM_all (n : Nat) (ms : List Int) : dueM n ms (lots n 1 3).reverse = firstSum n ms := fold_find _ _
theorem dueM_succ {n : Nat} {ms : List Int} {ls : List (List Nat)} {i : Nat} {lot : List Nat} (h : ls[i]? = some lot) : dueM n ms (ls.take (i + 1)) = if decide (restM n ms lot ≠ 0) = true then some lot else dueM n ms (ls.take i) := by
  obtain ⟨hlt, e⟩ := List.getElem?_eq_some_iff.mp h
  unfold dueM
  rw [List.take_succ_eq_append_getElem hlt, e, List.foldl_append]
  rfl
theorem DueR.same {K : PySem.W.Frag} {n : Nat} {ms : List Int} {H H' : Hp} {v : V} {F : Option (List Nat)} (s : Same H H') (h : DueR K n ms H v F) : DueR K n ms H' v F := by
  cases F with
  | none => exact h
  | some lot =>
    obtain ⟨p, c, e, h1, h2⟩ := h
    exact ⟨p, c, e, Same.tup s h1, Same.tup s h2⟩
theorem DueR.keep {K : PySem.W.Frag} {n : Nat} {ms : List Int} {H H' : Hp} {t : Addr} {tx : List V} {v : V} {F : Option (List Nat)} (ht : H t = some (.lst tx)) (s : Keep t H H') (h : DueR K n ms H v F) : DueR K n ms H' v F := by
  cases F with
  | none => exact h
  | some lot =>
    obtain ⟨p, c, e, h1, h2⟩ := h
    exact ⟨p, c, e, SqT.mut ht s h1, SqT.mut ht s h2⟩
theorem DueR.non {K : PySem.W.Frag} {n : Nat} {ms : List Int} {H : Hp} {v : V} {F : Option (List Nat)} (h : DueR K n ms H v F) : decide (v = .non) = F.isNone := by
  cases F with
  | none => exact decide_eq_true h
  | some lot =>
    obtain ⟨p, c, rfl, _⟩ := h
    exact decide_eq_false (fun z => by cases z)
def dueD (n : Nat) (ms : List Int) : Option (List Nat) → PyData
  | none => .none
  | some lot => .tuple [lotD lot, .int (restM n ms lot)]
theorem DueR.dp {K : PySem.W.Frag} {n : Nat} {ms : List Int} {H : Hp} {v : V} {F : Option (List Nat)} (h : DueR K n ms H v F) : Dp K H v (dueD n ms F) := by
  cases F with
  | none =>
    rw [show v = .non from h]
    exact .non
  | some lot =>
    obtain ⟨p, c, rfl, h1, h2⟩ := h
    exact .tup h1 (.cons (dpLot h2) (.cons (.int _) .nil))
theorem sm_ints {k : Nat} {ns : List Int} (h : ns.length ≤ 1000) : Sm (k + 1) (.tuple (dInts ns)) := .inr ⟨_, .inr rfl, by unfold dInts; rw [List.length_map]; exact h, fun e he => by
  obtain ⟨i, _, rfl⟩ := List.mem_map.mp he
  exact Sm.of0 (.inr (.inr ⟨i, rfl⟩))⟩
theorem first_mem {n : Nat} {ms : List Int} {lot : List Nat} (h : firstSum n ms = some lot) : lot ∈ lots n 1 3 ∧ restM n ms lot ≠ 0 := by
  refine ⟨List.mem_of_find?_eq_some h, ?_⟩
  have := List.find?_some h
  simpa using this
theorem sm_due {n : Nat} {ms : List Int} (hn : n ≤ 5) : Sm 2 (dueD n ms (firstSum n ms)) := by
  cases hF : firstSum n ms with
  | none => exact .inl (.inl rfl)
  | some lot =>
    have hl := lots13_len n hn lot (first_mem hF).1
    refine .inr ⟨_, .inr rfl, (by show 2 ≤ 1000; decide), fun e he => ?_⟩
    rcases List.mem_cons.mp he with rfl | he
    · exact sm_ints (by unfold lotI; rw [List.length_map]; omega)
    · rw [List.mem_singleton.mp he]
      exact Sm.of0 (.inr (.inr ⟨_, rfl⟩))
def RestR (n : Nat) (ms : List Int) (lot : List Nat) (r : Int) : Prop := (lot.length ≤ 3 ∧ r = restM n ms lot ∧ 0 ≤ restM n ms lot ∧ restM n ms lot < 8) ∨ (lot.length = 4 ∧ r = 0)
theorem rest_b2 {n : Nat} {ms : List Int} {lot : List Nat} {r : Int} (h : RestR n ms lot r) : (!decide (V.int r = V.int 0)) = decide (lot.length ≤ 3 ∧ (0 ≤ r ∧ r < 8) ∧ r ≠ 0 ∧ restM n ms lot = r) := by
  rcases h with ⟨h1, rfl, h2, h3⟩ | ⟨h1, rfl⟩
  · by_cases h0 : restM n ms lot = 0
    · rw [decide_eq_true (show V.int (restM n ms lot) = V.int 0 by rw [h0]), decide_eq_false (fun z => z.2.2.1 h0)]
      rfl
    · rw [decide_eq_false (show ¬ V.int (restM n ms lot) = V.int 0 from fun z => h0 (V.int.inj z)), decide_eq_true (show _ from ⟨h1, ⟨h2, h3⟩, h0, rfl⟩)]
      rfl
  · rw [decide_eq_true rfl, decide_eq_false (fun z => by have := z.1; omega)]
    rfl
theorem rest_b3 {n : Nat} {ms : List Int} {lot : List Nat} {r : Int} (h : RestR n ms lot r) : decide (lot.length ≤ 3 ∧ (0 ≤ r + 1 ∧ r + 1 < 8) ∧ r + 1 ≠ 0 ∧ restM n ms lot = r + 1) = false := by
  refine decide_eq_false fun z => ?_
  obtain ⟨z1, _, _, z4⟩ := z
  rcases h with ⟨_, e, _⟩ | ⟨e, _⟩ <;> omega
section
variable {P : Program} {w : World} {K : PySem.W.Frag} {mg : Str → Option Value} {base : Heap}
theorem iu_due {v : V} {ms : List Int} {n : Nat} {H : Hp} (hn : n ≤ 5) (hd : DueR K n ms H v (firstSum n ms)) : (v = .non ∧ (firstSum n ms).isSome = false) ∨ ∃ p c lot r, v = .ref p ∧ SqT K H p [.ref c, .int r] ∧ SqT K H c (lotV lot) ∧ 1 ≤ lot.length ∧ lot.length ≤ 100 ∧ Asc lot ∧ (∀ q ∈ lot, q < n) ∧
    decide (lot.length ≤ 3 ∧ (0 ≤ r ∧ r < 8) ∧ r ≠ 0 ∧ restM n ms lot = r) = (firstSum n ms).isSome := by
  cases hF : firstSum n ms with
  | none =>
    rw [hF] at hd
    exact .inl ⟨hd, rfl⟩
  | some lot =>
    rw [hF] at hd
    obtain ⟨p, c, rfl, h1, h2⟩ := hd
    obtain ⟨m1, m2⟩ := first_mem hF
    have hlen := lots13_len n hn lot m1
    exact .inr ⟨p, c, lot, _, rfl, h1, h2, by omega, by omega, asc_of (lots13_asc n hn lot m1), lots_lt n hn lot m1, decide_eq_true ⟨by omega, restM_range hn m1, m2, rfl⟩⟩
def spSr (K : PySem.W.Frag) : Sp := fun vs H Q _ => ∃ (t a b : Addr) (ms : List Int) (n : Nat) (c : Int), vs = [.ref t, .ref a, .int n, .ref b] ∧ Tin H t c ∧ c ≤ 3000 ∧ SqT K H a (ms.map V.int) ∧ ms.length = 2 ^ n - 1 ∧ 1 ≤ n ∧ n ≤ 5 ∧ SqT K H b ((turnsM ms).map V.int) ∧
  ∀ H', Keep t H H' → Tin H' t (c + 1) → Q (.bl true) H'
theorem ok_law_sums_right (T : Txt K mg) : FnOk P w K mg base CX0 7 T.law_sums_right.f T.law_sums_right.fd ["_law_tin", "_law_marks_so", "_law_n_so", "_law_turns_so"] (spSr K) := by
  have GS := ok_same (P := P) (w := w) (base := base) T 3 (by decide)
  refine T.law_sums_right.F.ok sc_law_sums_right (fun vs H Q E h => ?_) (fun cdv A outer s H vs Q E hr h => ?_)
  · obtain ⟨t, a, b, ms, n, c, rfl, _⟩ := h; rfl
  · obtain ⟨t, a, b, ms, n, c, rfl, hT, hc, hA, hl, hn1, hn, hB, k⟩ := h
    have hu := hr.units
    have h32 := pow_bnd hn
    have hp2 : 2 ≤ 2 ^ n := Nat.pow_le_pow_right (n := 2) (by decide) (show 1 ≤ n from hn1)
    obtain ⟨tx, htx⟩ := hT.at
    have htl : (turnsM ms).length = 2 ^ n := by unfold turnsM; rw [List.length_map, List.length_range]; omega
    refine ⟨_, (pss_cons (ps_set (i := 4) sc_law_sums_right.nd rfl (Or.inl rfl) pe_non)
      (pss_cons (ps_for PassesOwn.never rfl (pi_list (pe_revL (pe_call (ok_law_lots T) (hr.mono (by decide)) rfl T.law_lots.m T.law_lots.F.kp T.law_lots.b .nil pass0 (pa_cons (pv 2) (pa_cons pe_int (pa_cons pe_int pa_nil)))))) (pg_name (i := 5) sc_law_sums_right.nd rfl (Or.inl rfl)) (pss_cons (ps_set (i := 6) sc_law_sums_right.nd rfl (Or.inl rfl) (pe_call (ok_law_rest T) (hr.mono (by decide)) rfl T.law_rest.m T.law_rest.F.kp T.law_rest.b .nil pass0 (pa_cons (pv 1) (pa_cons (pv 2) (pa_cons (pv 5) pa_nil)))))
      (pss_one (ps_if (pt_cmpR op_ne (pv 6) pe_int (nomark _)) (pss_one (ps_set (i := 4) sc_law_sums_right.nd rfl (Or.inl rfl) (pe_tup (pa_cons (pv 5) (pa_cons (pv 6) pa_nil))))) pss_nil))))
      (pss_cons (ps_if (pt_cmpR op_ne (pe_cmpR op_isN (pv 4) pe_non (nomark _)) (pe_cmpR (op_eqD hu) (pv 3) (pe_op op_repC (pe_tup (pa_cons pe_int pa_nil)) (pe_callB call_lenC (by rfl) T.z_len (by decide +kernel) (pa_cons (pv 3) pa_nil))) (nomark _)) (nomark _)) (pss_one (ps_ret pe_bl)) pss_nil)
      (pss_cons (ps_set (i := 5) sc_law_sums_right.nd rfl (Or.inl rfl) (pe_call (ok_law_of T) (hr.mono (by decide)) rfl T.law_of.m T.law_of.F.kp T.law_of.b .nil pass0 (pa_cons (pv 0) (pa_cons (pe_call (ok_law_lots T) (hr.mono (by decide)) rfl T.law_lots.m T.law_lots.F.kp T.law_lots.b .nil pass0 (pa_cons (pv 2) (pa_cons pe_int (pa_cons pe_int pa_nil)))) pa_nil))))
      (pss_cons (ps_set (i := 6) sc_law_sums_right.nd rfl (Or.inl rfl) (pe_ifExp (pt_cmpR op_lt (pe_callB call_lenC (by rfl) T.z_len (by decide +kernel) (pa_cons (pv 5) pa_nil)) pe_int (nomark _)) (pe_call (ok_law_rest T) (hr.mono (by decide)) rfl T.law_rest.m T.law_rest.F.kp T.law_rest.b .nil pass0 (pa_cons (pv 1) (pa_cons (pv 2) (pa_cons (pv 5) pa_nil)))) pe_int))
      (pss_cons (ps_set (i := 7) sc_law_sums_right.nd rfl (Or.inl rfl) (pe_lst (pa_cons (pe_call (ok_law_sum_told T) (hr.mono (by decide)) rfl T.law_sum_told.m T.law_sum_told.F.kp T.law_sum_told.b .nil pass0 (pa_cons (pv 1) pa_nil)) (pa_cons (pe_call (ok_is_uneven_sum T) (hr.mono (by decide)) rfl T.is_uneven_sum.m T.is_uneven_sum.F.kp T.is_uneven_sum.b .nil pass0 (pa_cons (pv 1) (pa_cons (pe_tup (pa_cons (pv 5) (pa_cons (pv 6) pa_nil))) pa_nil))) (pa_cons (pe_call (ok_is_uneven_sum T) (hr.mono (by decide)) rfl T.is_uneven_sum.m T.is_uneven_sum.F.kp T.is_uneven_sum.b .nil pass0 (pa_cons (pv 1) (pa_cons (pe_tup (pa_cons (pv 5) (pa_cons (pe_op op_add (pv 6) pe_int) pa_nil))) pa_nil))) (pa_cons (pe_call (ok_is_uneven_sum T) (hr.mono (by decide)) rfl T.is_uneven_sum.m T.is_uneven_sum.F.kp T.is_uneven_sum.b .nil pass0 (pa_cons (pe_callTy call_list_of (by rfl) T.z_list (by decide +kernel) (pa_cons (pv 1) pa_nil)) (pa_cons (pv 4) pa_nil))) pa_nil))))))
      (pss_one (ps_ret (pe_call GS (hr.mono (by decide)) rfl T.law_same.m T.law_same.F.kp T.law_same.b .nil pass0 (pa_cons (pv 7) (pa_cons (pe_lst (pa_cons (pv 4) (pa_cons (pe_cmpR op_ne (pv 6) pe_int (nomark _)) (pa_cons pe_bl (pa_cons (pe_cmpR op_notN (pv 4) pe_non (nomark _)) pa_nil))))) pa_nil))))))))))), ?_⟩
    refine ⟨_, rfl, n, 1, 3, rfl, hn, sort13 n hn, (lots_count n hn).1, fun p refs H1 s1 hp0 hp hD => ?_⟩
    refine ⟨p, _, rfl, SqL.of hp, fun pr hpr => ?_⟩
    have hDr : DpAll K (upd H1 pr (.lst refs.reverse)) refs.reverse ((lots n 1 3).reverse.map lotD) := by
      rw [List.map_reverse]
      exact DpAll.same (Same.new hpr) _ _ (DpAll.reverse hD)
    have s2 : Same H (upd H1 pr (.lst refs.reverse)) := s1.trans (Same.new hpr)
    have hpr2 : upd H1 pr (.lst refs.reverse) pr = some (.lst refs.reverse) := upd_same
    generalize upd H1 pr (.lst refs.reverse) = H2 at hDr s2 hpr2
    have hrl := DpAll.len hDr
    rw [List.length_map] at hrl
    refine ⟨pr, rfl, ⟨_, SqL.of hpr2⟩, for_list (K := K) (a := pr) (xs := refs.reverse) (fun i σ H' => ∃ (v5 v6 : Option V) (dv : V), σ = [some (.ref t), some (.ref a), some (.int n), some (.ref b), some dv, v5, v6, none] ∧ Same H2 H' ∧ DueR K n ms H' dv (dueM n ms ((lots n 1 3).reverse.take i)))
      ⟨none, none, .non, rfl, Same.refl _, rfl⟩ (fun i σ H' _ ⟨_, _, _, _, e, _⟩ => SqL.of (e _ _ hpr2)) ?_ ?_⟩
    · rintro i x σ H3 hx ⟨v5, v6, dv, rfl, s3, hdue⟩
      obtain ⟨d, hd1, hd2⟩ := DpAll.get hDr hx
      rw [List.getElem?_map] at hd1
      cases hj : (lots n 1 3).reverse[i]? with
      | none => rw [hj] at hd1; cases hd1
      | some lot =>
        rw [hj] at hd1
        cases Option.some.inj hd1
        obtain ⟨q, rfl, hL⟩ := dpLot_inv hd2
        have hm : lot ∈ lots n 1 3 := List.mem_reverse.mp (List.mem_of_getElem? hj)
        have hlen := lots13_len n hn lot hm
        have hlt := lots_lt n hn lot hm
        have hL3 := Same.tup s3 hL
        have hA3 := Same.tup (s2.trans s3) hA
        have esucc := dueM_succ (n := n) (ms := ms) hj
        refine ⟨_, rfl, _, rfl, _, rfl, a, q, ms, n, lot, rfl, hA3, hL3, hlt, by omega, by omega, by omega, by omega, fun H4 s4 => ?_⟩
        refine ⟨_, rfl, rfl, _, rfl, ?_⟩
        by_cases hr0 : restM n ms lot = 0
        · rw [decide_eq_true (by rw [hr0])]
          refine ⟨_, _, dv, rfl, s3.trans s4, ?_⟩
          rw [esucc, if_neg (by simp [hr0])]
          exact hdue.same s4
        · rw [decide_eq_false (fun z => hr0 (V.int.inj z))]
          refine ⟨_, rfl, _, rfl, by show 2 ≤ sizeLine; decide, fun u hu => ?_⟩
          refine ⟨_, _, .ref u, rfl, (s3.trans s4).trans (Same.new hu), ?_⟩
          rw [esucc, if_pos (by simp [hr0])]
          exact ⟨u, q, rfl, SqT.of upd_same, Same.tup (s4.trans (Same.new hu)) hL3⟩
    · rintro σ H3 ⟨v5, v6, dv, rfl, s3, hdue⟩
      rw [hrl, List.take_length, dueM_all] at hdue
      have s03 := s2.trans s3
      have hB3 := Same.tup s03 hB
      -- the sums and the turns
      refine ⟨_, rfl, rfl, ?_⟩
      refine ⟨_, rfl, by show 1 ≤ sizeLine; decide, fun u hu0 => ?_⟩
      refine ⟨_, rfl, b, _, rfl, .inr (Same.tup (Same.new hu0) hB3), u, ((List.map V.int (turnsM ms)).length : Nat), _, rfl, rfl, SqT.of upd_same, by simp, by rw [List.length_map]; omega, by rw [List.length_map]; omega, by decide, fun z H4 s4 hz => ?_⟩
      rw [Int.toNat_natCast, List.length_map, htl, rep_flat] at hz
      have s34 : Same H3 H4 := (Same.new hu0).trans s4
      refine ⟨_, _, dpTupI (Same.tup s34 hB3), dpTupI hz, shaped_ints _, shaped_ints _, ?_⟩
      rw [eqv_ints, hdue.non]
      have hiff := first_iff hn hl
      have etest : decide (V.bl (firstSum n ms).isNone = V.bl (decide (turnsM ms = List.replicate (2 ^ n) 0))) = true := by
        rw [decide_eq_true_iff]
        congr 1
        cases hF : firstSum n ms with
        | none => exact (decide_eq_true (hiff.mp hF)).symm
        | some lot => exact (decide_eq_false (fun z => by rw [hiff.mpr z] at hF; cases hF)).symm
      refine ⟨rfl, _, rfl, ?_⟩
      rw [etest]
      -- the drawn lot
      have s04 := s03.trans s34
      refine ⟨_, rfl, _, rfl, n, 1, 4, rfl, hn, sort14 n hn, (lots_pos n hn hn1).2, fun p4 refs4 H5 s5 hp40 hp4 hD4 => ?_⟩
      have hr4 := DpAll.len hD4
      rw [List.length_map] at hr4
      have ht5 := (s04.trans s5) _ _ htx
      have np4 : p4 ≠ t := fun z => by rw [z, s04 _ _ htx] at hp40; cases hp40
      have hlp := lots_pos n hn hn1
      refine ⟨t, p4, refs4, c, rfl, hT.same (s04.trans s5), by omega, SqL.of hp4, np4, by omega, by omega, fun j v H6 hv k6 hT6 => ?_⟩
      obtain ⟨d, hd1, hd2⟩ := DpAll.get hD4 hv
      rw [List.getElem?_map] at hd1
      cases hj : (lots n 1 4)[j]? with
      | none => rw [hj] at hd1; cases hd1
      | some lot =>
        rw [hj] at hd1
        cases Option.some.inj hd1
        obtain ⟨q, rfl, hL5⟩ := dpLot_inv hd2
        have hm : lot ∈ lots n 1 4 := List.mem_of_getElem? hj
        obtain ⟨g1, g4, glt⟩ := lots14 n hn lot hm
        have gasc := asc_of (lots14_asc n hn lot hm)
        have hL6 := SqT.mut ht5 k6 hL5
        have hA6 := SqT.mut ht5 k6 (Same.tup (s04.trans s5) hA)
        have hdue6 := (hdue.same (s34.trans s5)).keep ht5 k6
        have k06 : Keep t H H6 := (Keep.of (s04.trans s5)).trans k6
        obtain ⟨tx6, htx6⟩ := hT6.at
        refine ⟨_, rfl, q, _, rfl, .inr hL6, _, _, rfl, rfl, _, rfl, ?_⟩
        by_cases h4 : lot.length < 4
        · rw [decide_eq_true (show ((lotV lot).length : Nat) < (4 : Int) by rw [lotV_len]; omega)]
          have hm13 := lots14_13 n hn lot hm h4
          have hrr : RestR n ms lot (restM n ms lot) := .inl ⟨by omega, rfl, (restM_range hn hm13).1, (restM_range hn hm13).2⟩
          refine ⟨_, rfl, _, rfl, _, rfl, a, q, ms, n, lot, rfl, hA6, hL6, glt, by omega, by omega, by omega, by omega, fun H7 s7 => ?_⟩
          have hA7 := Same.tup s7 hA6
          have hL7 := Same.tup s7 hL6
          have hd7 := hdue6.same s7
          refine ⟨_, rfl, a, ms, n, rfl, hA7, hl, hn, fun v0 H8 s8 hd0 => ?_⟩
          refine ⟨_, rfl, _, rfl, _, rfl, by show 2 ≤ sizeLine; decide, fun e1 he1 => ?_⟩
          refine ⟨a, .ref e1, ms, n, rfl, .inr (Same.tup (s8.trans (Same.new he1)) hA7), hl, hn, .inr ⟨e1, q, lot, _, rfl, SqT.of upd_same, Same.tup (s8.trans (Same.new he1)) hL7, g1, by omega, gasc, glt, fun H9 s9 => ?_⟩⟩
          rw [← rest_b2 hrr]
          have s89 : Same H8 H9 := (Same.new he1).trans s9
          refine ⟨_, rfl, _, rfl, _, rfl, _, _, rfl, rfl, by show 2 ≤ sizeLine; decide, fun e2 he2 => ?_⟩
          have s79 := s8.trans s89
          refine ⟨a, .ref e2, ms, n, rfl, .inr (Same.tup (s79.trans (Same.new he2)) hA7), hl, hn, .inr ⟨e2, q, lot, _, rfl, SqT.of upd_same, Same.tup (s79.trans (Same.new he2)) hL7, g1, by omega, gasc, glt, fun H10 s10 => ?_⟩⟩
          rw [rest_b3 hrr]
          have s9x : Same H9 H10 := (Same.new he2).trans s10
          have s710 := s79.trans s9x
          refine ⟨_, rfl, a, _, rfl, .inr (Same.tup s710 hA7), fun l hl0 => ⟨_, rfl, ?_⟩⟩
          have hdl := hd7.same (s710.trans (Same.new (o := .lst (ms.map V.int)) hl0))
          rcases iu_due hn hdl with ⟨edv, eb⟩ | ⟨pp, cc, lt2, rr, edv, z1, z2, z3, z4, z5, z6, eb⟩
          · refine ⟨l, dv, ms, n, rfl, .inl (SqL.of upd_same), hl, hn, .inl ⟨edv, fun H11 s11 => ?_⟩⟩
            have s1011 : Same H10 H11 := (Same.new hl0).trans s11
            refine ⟨by show 4 ≤ sizeLine; decide, fun g hg => ?_⟩
            refine ⟨_, rfl, _, rfl, _, rfl, rfl, _, rfl, rfl, by show 4 ≤ sizeLine; decide, fun d hd => ?_⟩
            have s8e := (s89.trans s9x).trans s1011
            have sgd := (Same.new (o := .lst [v0, .bl (!decide (V.int (restM n ms lot) = V.int 0)), .bl false, .bl false]) hg).trans (Same.new (o := .lst [dv, .bl (!decide (V.int (restM n ms lot) = V.int 0)), .bl false, .bl (!decide (dv = .non))]) hd)
            have s7e := (s8.trans s8e).trans sgd
            have hnn : (!decide (dv = .non)) = false := by
              rw [hdue.non]
              revert eb
              cases firstSum n ms <;> simp
            refine ⟨.ref g, .ref d, .list [dueD n ms (firstSum n ms), .bool (!decide (V.int (restM n ms lot) = V.int 0)), .bool false, .bool false], rfl, ?_, ?_, ?_, fun H12 s12 => ?_⟩
            · exact .lst (SqL.of (Same.new hd _ _ upd_same)) (.cons (hd0.same (s8e.trans sgd)).dp (.cons (.bl _) (.cons (.bl _) (.cons (.bl _) .nil))))
            · refine .lst (SqL.of upd_same) (.cons (hd7.same s7e).dp (.cons (.bl _) (.cons (.bl _) (.cons ?_ .nil))))
              rw [hnn]
              exact .bl _
            · refine .inr ⟨_, .inl rfl, (by show 4 ≤ 1000; decide), fun e he => ?_⟩
              rcases List.mem_cons.mp he with rfl | he
              · exact sm_due hn
              · rcases List.mem_cons.mp he with rfl | he
                · exact Sm.of0 (.inr (.inl ⟨_, rfl⟩))
                · rcases List.mem_cons.mp he with rfl | he
                  · exact Sm.of0 (.inr (.inl ⟨_, rfl⟩))
                  · rw [List.mem_singleton.mp he]
                    exact Sm.of0 (.inr (.inl ⟨_, rfl⟩))
            · have sAll := (s7.trans s7e).trans s12
              exact k H12 (k06.trans (Keep.of sAll)) (hT6.same sAll)
          · refine ⟨l, dv, ms, n, rfl, .inl (SqL.of upd_same), hl, hn, .inr ⟨pp, cc, lt2, rr, edv, z1, z2, z3, z4, z5, z6, fun H11 s11 => ?_⟩⟩
            rw [eb]
            have s1011 : Same H10 H11 := (Same.new hl0).trans s11
            refine ⟨by show 4 ≤ sizeLine; decide, fun g hg => ?_⟩
            refine ⟨_, rfl, _, rfl, _, rfl, rfl, _, rfl, rfl, by show 4 ≤ sizeLine; decide, fun d hd => ?_⟩
            have s8e := (s89.trans s9x).trans s1011
            have sgd := (Same.new (o := .lst [v0, .bl (!decide (V.int (restM n ms lot) = V.int 0)), .bl false, .bl (firstSum n ms).isSome]) hg).trans (Same.new (o := .lst [dv, .bl (!decide (V.int (restM n ms lot) = V.int 0)), .bl false, .bl (!decide (dv = .non))]) hd)
            have s7e := (s8.trans s8e).trans sgd
            have hnn : (!decide (dv = .non)) = (firstSum n ms).isSome := by
              rw [hdue.non]
              cases firstSum n ms <;> rfl
            refine ⟨.ref g, .ref d, .list [dueD n ms (firstSum n ms), .bool (!decide (V.int (restM n ms lot) = V.int 0)), .bool false, .bool (firstSum n ms).isSome], rfl, ?_, ?_, ?_, fun H12 s12 => ?_⟩
            · exact .lst (SqL.of (Same.new hd _ _ upd_same)) (.cons (hd0.same (s8e.trans sgd)).dp (.cons (.bl _) (.cons (.bl _) (.cons (.bl _) .nil))))
            · refine .lst (SqL.of upd_same) (.cons (hd7.same s7e).dp (.cons (.bl _) (.cons (.bl _) (.cons ?_ .nil))))
              rw [hnn]
              exact .bl _
            · refine .inr ⟨_, .inl rfl, (by show 4 ≤ 1000; decide), fun e he => ?_⟩
              rcases List.mem_cons.mp he with rfl | he
              · exact sm_due hn
              · rcases List.mem_cons.mp he with rfl | he
                · exact Sm.of0 (.inr (.inl ⟨_, rfl⟩))
                · rcases List.mem_cons.mp he with rfl | he
                  · exact Sm.of0 (.inr (.inl ⟨_, rfl⟩))
                  · rw [List.mem_singleton.mp he]
                    exact Sm.of0 (.inr (.inl ⟨_, rfl⟩))
            · have sAll := (s7.trans s7e).trans s12
              exact k H12 (k06.trans (Keep.of sAll)) (hT6.same sAll)
        · rw [decide_eq_false (show ¬ ((lotV lot).length : Nat) < (4 : Int) by rw [lotV_len]; omega)]
          have hrr : RestR n ms lot 0 := .inr ⟨by omega, rfl⟩
          have s7 : Same H6 H6 := Same.refl _
          have hA7 := Same.tup s7 hA6
          have hL7 := Same.tup s7 hL6
          have hd7 := hdue6.same s7
          refine ⟨_, rfl, a, ms, n, rfl, hA7, hl, hn, fun v0 H8 s8 hd0 => ?_⟩
          refine ⟨_, rfl, _, rfl, _, rfl, by show 2 ≤ sizeLine; decide, fun e1 he1 => ?_⟩
          refine ⟨a, .ref e1, ms, n, rfl, .inr (Same.tup (s8.trans (Same.new he1)) hA7), hl, hn, .inr ⟨e1, q, lot, _, rfl, SqT.of upd_same, Same.tup (s8.trans (Same.new he1)) hL7, g1, by omega, gasc, glt, fun H9 s9 => ?_⟩⟩
          rw [← rest_b2 hrr]
          have s89 : Same H8 H9 := (Same.new he1).trans s9
          refine ⟨_, rfl, _, rfl, _, rfl, _, _, rfl, rfl, by show 2 ≤ sizeLine; decide, fun e2 he2 => ?_⟩
          have s79 := s8.trans s89
          refine ⟨a, .ref e2, ms, n, rfl, .inr (Same.tup (s79.trans (Same.new he2)) hA7), hl, hn, .inr ⟨e2, q, lot, _, rfl, SqT.of upd_same, Same.tup (s79.trans (Same.new he2)) hL7, g1, by omega, gasc, glt, fun H10 s10 => ?_⟩⟩
          rw [rest_b3 hrr]
          have s9x : Same H9 H10 := (Same.new he2).trans s10
          have s710 := s79.trans s9x
          refine ⟨_, rfl, a, _, rfl, .inr (Same.tup s710 hA7), fun l hl0 => ⟨_, rfl, ?_⟩⟩
          have hdl := hd7.same (s710.trans (Same.new (o := .lst (ms.map V.int)) hl0))
          rcases iu_due hn hdl with ⟨edv, eb⟩ | ⟨pp, cc, lt2, rr, edv, z1, z2, z3, z4, z5, z6, eb⟩
          · refine ⟨l, dv, ms, n, rfl, .inl (SqL.of upd_same), hl, hn, .inl ⟨edv, fun H11 s11 => ?_⟩⟩
            have s1011 : Same H10 H11 := (Same.new hl0).trans s11
            refine ⟨by show 4 ≤ sizeLine; decide, fun g hg => ?_⟩
            refine ⟨_, rfl, _, rfl, _, rfl, rfl, _, rfl, rfl, by show 4 ≤ sizeLine; decide, fun d hd => ?_⟩
            have s8e := (s89.trans s9x).trans s1011
            have sgd := (Same.new (o := .lst [v0, .bl (!decide (V.int 0 = V.int 0)), .bl false, .bl false]) hg).trans (Same.new (o := .lst [dv, .bl (!decide (V.int 0 = V.int 0)), .bl false, .bl (!decide (dv = .non))]) hd)
            have s7e := (s8.trans s8e).trans sgd
            have hnn : (!decide (dv = .non)) = false := by
              rw [hdue.non]
              revert eb
              cases firstSum n ms <;> simp
            refine ⟨.ref g, .ref d, .list [dueD n ms (firstSum n ms), .bool (!decide (V.int 0 = V.int 0)), .bool false, .bool false], rfl, ?_, ?_, ?_, fun H12 s12 => ?_⟩
            · exact .lst (SqL.of (Same.new hd _ _ upd_same)) (.cons (hd0.same (s8e.trans sgd)).dp (.cons (.bl _) (.cons (.bl _) (.cons (.bl _) .nil))))
            · refine .lst (SqL.of upd_same) (.cons (hd7.same s7e).dp (.cons (.bl _) (.cons (.bl _) (.cons ?_ .nil))))
              rw [hnn]
              exact .bl _
            · refine .inr ⟨_, .inl rfl, (by show 4 ≤ 1000; decide), fun e he => ?_⟩
              rcases List.mem_cons.mp he with rfl | he
              · exact sm_due hn
              · rcases List.mem_cons.mp he with rfl | he
                · exact Sm.of0 (.inr (.inl ⟨_, rfl⟩))
                · rcases List.mem_cons.mp he with rfl | he
                  · exact Sm.of0 (.inr (.inl ⟨_, rfl⟩))
                  · rw [List.mem_singleton.mp he]
                    exact Sm.of0 (.inr (.inl ⟨_, rfl⟩))
            · have sAll := (s7.trans s7e).trans s12
              exact k H12 (k06.trans (Keep.of sAll)) (hT6.same sAll)
          · refine ⟨l, dv, ms, n, rfl, .inl (SqL.of upd_same), hl, hn, .inr ⟨pp, cc, lt2, rr, edv, z1, z2, z3, z4, z5, z6, fun H11 s11 => ?_⟩⟩
            rw [eb]
            have s1011 : Same H10 H11 := (Same.new hl0).trans s11
            refine ⟨by show 4 ≤ sizeLine; decide, fun g hg => ?_⟩
            refine ⟨_, rfl, _, rfl, _, rfl, rfl, _, rfl, rfl, by show 4 ≤ sizeLine; decide, fun d hd => ?_⟩
            have s8e := (s89.trans s9x).trans s1011
            have sgd := (Same.new (o := .lst [v0, .bl (!decide (V.int 0 = V.int 0)), .bl false, .bl (firstSum n ms).isSome]) hg).trans (Same.new (o := .lst [dv, .bl (!decide (V.int 0 = V.int 0)), .bl false, .bl (!decide (dv = .non))]) hd)
            have s7e := (s8.trans s8e).trans sgd
            have hnn : (!decide (dv = .non)) = (firstSum n ms).isSome := by
              rw [hdue.non]
              cases firstSum n ms <;> rfl
            refine ⟨.ref g, .ref d, .list [dueD n ms (firstSum n ms), .bool (!decide (V.int 0 = V.int 0)), .bool false, .bool (firstSum n ms).isSome], rfl, ?_, ?_, ?_, fun H12 s12 => ?_⟩
            · exact .lst (SqL.of (Same.new hd _ _ upd_same)) (.cons (hd0.same (s8e.trans sgd)).dp (.cons (.bl _) (.cons (.bl _) (.cons (.bl _) .nil))))
            · refine .lst (SqL.of upd_same) (.cons (hd7.same s7e).dp (.cons (.bl _) (.cons (.bl _) (.cons ?_ .nil))))
              rw [hnn]
              exact .bl _
            · refine .inr ⟨_, .inl rfl, (by show 4 ≤ 1000; decide), fun e he => ?_⟩
              rcases List.mem_cons.mp he with rfl | he
              · exact sm_due hn
              · rcases List.mem_cons.mp he with rfl | he
                · exact Sm.of0 (.inr (.inl ⟨_, rfl⟩))
                · rcases List.mem_cons.mp he with rfl | he
                  · exact Sm.of0 (.inr (.inl ⟨_, rfl⟩))
                  · rw [List.mem_singleton.mp he]
                    exact Sm.of0 (.inr (.inl ⟨_, rfl⟩))
            · have sAll := (s7.trans s7e).trans s12
              exact k H12 (k06.trans (Keep.of sAll)) (hT6.same sAll)
end
end E8
set_option Elab.async false
set_option linter.all false
set_option maxRecDepth 100000
set_option maxHeartbeats 4000000
/-! D20: the law's word on marks. -/
namespace E8
open PySem PySem.Spec PyProof.Rows L2
/-- what stands while the law goes on -/
structure Fx (K : PySem.W.Frag) (t a z b : Addr) (ms zs : List Int) (H : Hp) (c : Int) : Prop where
  T : Tin H t c
  A : SqT K H a (ms.map V.int)
  Z : SqT K H z (zs.map V.int)
  B : SqT K H b ((turnsM ms).map V.int)
theorem Fx.same {K : PySem.W.Frag} {t a z b : Addr} {ms zs : List Int} {H H' : Hp} {c : Int} (f : Fx K t a z b ms zs H c) (s : Same H H') : Fx K t a z b ms zs H' c := ⟨f.T.same s, Same.tup s f.A, Same.tup s f.Z, Same.tup s f.B⟩
theorem Fx.keep {K : PySem.W.Frag} {t a z b : Addr} {ms zs : List Int} {H H' : Hp} {c c' : Int} (f : Fx K t a z b ms zs H c) (k : Keep t H H') (T' : Tin H' t c') : Fx K t a z b ms zs H' c' := by
  obtain ⟨tx, ht⟩ := f.T.at
  exact ⟨T', SqT.mut ht k f.A, SqT.mut ht k f.Z, SqT.mut ht k f.B⟩
theorem Fx.set {K : PySem.W.Frag} {t a z b g : Addr} {ms zs : List Int} {H : Hp} {c : Int} {xs ys : List V} (f : Fx K t a z b ms zs H c) (hg : H g = some (.lst xs)) (n : t ≠ g) : Fx K t a z b ms zs (upd H g (.lst ys)) c :=
  ⟨f.T.keep Keep.upd n, SqT.mut hg Keep.upd f.A, SqT.mut hg Keep.upd f.Z, SqT.mut hg Keep.upd f.B⟩
theorem nice_mk {t f : Int} {maps ms : List Int} (h1 : maps.length ≤ 1000) (h2 : ms.length ≤ 1000) : Nice 2 (dMk t maps f ms) := by
  refine .inr ⟨_, .inr rfl, (by show 4 ≤ 1000; decide), fun e he => ?_⟩
  rcases List.mem_cons.mp he with rfl | he
  · exact .inl ⟨_, rfl⟩
  · rcases List.mem_cons.mp he with rfl | he
    · exact (nice_seq h1).2
    · rcases List.mem_cons.mp he with rfl | he
      · exact .inl ⟨_, rfl⟩
      · rw [List.mem_singleton.mp he]
        exact (nice_seq h2).2
theorem tupD_mk (t f : Int) (maps ms : List Int) : tupD (dMk t maps f ms) = dMk t maps f ms := by
  show PyData.tuple [.int t, .tuple (tupAll (dInts maps)), .int f, .tuple (tupAll (dInts ms))] = _
  rw [tupAll_ints, tupAll_ints]
  rfl
def lMk (t : Int) (maps : List Int) (f : Int) (ms : List Int) : PyData := .list [.int t, .list (dInts maps), .int f, .list (dInts ms)]
theorem nice_lk {t f : Int} {maps ms : List Int} (h1 : maps.length ≤ 1000) (h2 : ms.length ≤ 1000) : Nice 2 (lMk t maps f ms) := by
  refine .inr ⟨_, .inl rfl, (by show 4 ≤ 1000; decide), fun e he => ?_⟩
  rcases List.mem_cons.mp he with rfl | he
  · exact .inl ⟨_, rfl⟩
  · rcases List.mem_cons.mp he with rfl | he
    · exact (nice_seq h1).1
    · rcases List.mem_cons.mp he with rfl | he
      · exact .inl ⟨_, rfl⟩
      · rw [List.mem_singleton.mp he]
        exact (nice_seq h2).1
theorem tupD_lk (t f : Int) (maps ms : List Int) : tupD (lMk t maps f ms) = dMk t maps f ms := by
  show PyData.tuple [.int t, .tuple (tupAll (dInts maps)), .int f, .tuple (tupAll (dInts ms))] = _
  rw [tupAll_ints, tupAll_ints]
  rfl
theorem dp_mk {K : PySem.W.Frag} {H : Hp} {o b c : Addr} {t f : Int} {maps ms : List Int} (h : SqT K H o [.int t, .ref b, .int f, .ref c]) (hb : SqT K H b (maps.map V.int)) (hc : SqT K H c (ms.map V.int)) : Dp K H (.ref o) (dMk t maps f ms) :=
  .tup h (.cons (.int t) (.cons (dpTupI hb) (.cons (.int f) (.cons (dpTupI hc) .nil))))
theorem dpListI {K : PySem.W.Frag} {H : Hp} {a : Addr} {ns : List Int} (h : SqL K H a (ns.map V.int)) : Dp K H (.ref a) (.list (dInts ns)) := .lst h (dpInts ns)
theorem sm_pair {ns ms : List Int} (h1 : ns.length ≤ 1000) (h2 : ms.length ≤ 1000) : Sm 3 (.list [.tuple (dInts ns), .tuple (dInts ms)]) := by
  refine .inr ⟨_, .inl rfl, (by show 2 ≤ 1000; decide), fun e he => ?_⟩
  rcases List.mem_cons.mp he with rfl | he
  · exact sm_ints h1
  · rw [List.mem_singleton.mp he]
    exact sm_ints h2
theorem turns_len (ms : List Int) : (turnsM ms).length = ms.length + 1 := by unfold turnsM; rw [List.length_map, List.length_range]
section
variable {P : Program} {w : World} {K : PySem.W.Frag} {mg : Str → Option Value} {base : Heap}
def spRt : Sp := fun vs H Q _ => ∃ t, vs = [.ref t] ∧ Tin H t 0 ∧ ∀ H', Q (.bl true) H'
theorem ok_law_right (T : Txt K mg) : FnOk P w K mg base CX0 8 T.law_right.f T.law_right.fd ["_law_tin"] spRt := by
  have GS := ok_same (P := P) (w := w) (base := base) T 3 (by decide)
  have GL := ok_lists2 (P := P) (w := w) (base := base) T
  refine T.law_right.F.ok sc_law_right (fun vs H Q E h => ?_) (fun cdv A outer s H vs Q E hr h => ?_)
  · obtain ⟨t, rfl, _⟩ := h; rfl
  · obtain ⟨t, rfl, hT, k⟩ := h
    have hu := hr.units
    refine ⟨_, (pss_cons (ps_set (i := 1) sc_law_right.nd rfl (Or.inl rfl) (pe_op op_add pe_int (pe_call (ok_law_of T) (hr.mono (by decide)) rfl T.law_of.m T.law_of.F.kp T.law_of.b .nil pass0 (pa_cons (pv 0) (pa_cons (pe_lst (pa_cons pe_int (pa_cons pe_int (pa_cons pe_int (pa_cons pe_int (pa_cons pe_int (pa_cons pe_int pa_nil))))))) pa_nil)))))
      (pss_cons (ps_par (i := 2) (j := 3) rfl sc_law_right.nd rfl rfl (by decide) rfl rfl (pa_cons (pe_call (ok_law_marks T) (hr.mono (by decide)) rfl T.law_marks.m T.law_marks.F.kp T.law_marks.b .nil pass0 (pa_cons (pv 0) (pa_cons (pv 1) pa_nil))) (pa_cons (pe_call (ok_law_zero_marks T) (hr.mono (by decide)) rfl T.law_zero_marks.m T.law_zero_marks.F.kp T.law_zero_marks.b .nil pass0 (pa_cons (pv 0) (pa_cons (pv 1) pa_nil))) pa_nil)) (by rfl))
      (pss_cons (ps_set (i := 4) sc_law_right.nd rfl (Or.inl rfl) (pe_call (ok_law_turns T) (hr.mono (by decide)) rfl T.law_turns.m T.law_turns.F.kp T.law_turns.b .nil pass0 (pa_cons (pv 2) pa_nil)))
      (pss_cons (ps_if (pt_not (pt_val (pe_call GS (hr.mono (by decide)) rfl T.law_same.m T.law_same.F.kp T.law_same.b .nil pass0 (pa_cons (pe_lst (pa_cons (pe_call (ok_turns_of T) (hr.mono (by decide)) rfl T.turns_of.m T.turns_of.F.kp T.turns_of.b .nil pass0 (pa_cons (pv 2) pa_nil)) (pa_cons (pe_call (ok_turns_of T) (hr.mono (by decide)) rfl T.turns_of.m T.turns_of.F.kp T.turns_of.b .nil pass0 (pa_cons (pe_callTy call_list_of (by rfl) T.z_list (by decide +kernel) (pa_cons (pv 3) pa_nil)) pa_nil)) pa_nil))) (pa_cons (pe_lst (pa_cons (pv 4) (pa_cons (pe_op op_repC (pe_tup (pa_cons pe_int pa_nil)) (pe_op op_shlC pe_int (pv 1))) pa_nil))) pa_nil))))) (pss_one (ps_ret pe_bl)) pss_nil)
      (pss_cons (ps_if (PW.pt (pw_or (pt_not (pt_val (pe_call (ok_law_sums_right T) (hr.mono (by decide)) rfl T.law_sums_right.m T.law_sums_right.F.kp T.law_sums_right.b .nil pass0 (pa_cons (pv 0) (pa_cons (pv 2) (pa_cons (pv 1) (pa_cons (pv 4) pa_nil))))))) (pw_or1 (pt_not (pt_val (pe_call (ok_law_sums_right T) (hr.mono (by decide)) rfl T.law_sums_right.m T.law_sums_right.F.kp T.law_sums_right.b .nil pass0 (pa_cons (pv 0) (pa_cons (pv 3) (pa_cons (pv 1) (pa_cons (pe_op op_repC (pe_tup (pa_cons pe_int pa_nil)) (pe_op op_shlC pe_int (pv 1))) pa_nil)))))))))) (pss_one (ps_ret pe_bl)) pss_nil)
      (pss_cons (ps_par (i := 5) (j := 6) rfl sc_law_right.nd rfl rfl (by decide) rfl rfl (pa_cons (pe_call (ok_law_added T) (hr.mono (by decide)) rfl T.law_added.m T.law_added.F.kp T.law_added.b .nil pass0 (pa_cons (pv 2) (pa_cons (pv 3) (pa_cons (pe_op op_add pe_int (pe_op op_mul pe_int (pe_call (ok_law_take T) (hr.mono (by decide)) rfl T.law_take.m T.law_take.F.kp T.law_take.b .nil pass0 (pa_cons (pv 0) (pa_cons pe_int pa_nil))))) pa_nil)))) (pa_cons (pe_callTy call_list_of (by rfl) T.z_list (by decide +kernel) (pa_cons (pv 2) pa_nil)) pa_nil)) (by rfl))
      (pss_cons (ps_set (i := 7) sc_law_right.nd rfl (Or.inl rfl) (pe_call (ok_law_take T) (hr.mono (by decide)) rfl T.law_take.m T.law_take.F.kp T.law_take.b .nil pass0 (pa_cons (pv 0) (pa_cons (pe_callB call_lenC (by rfl) T.z_len (by decide +kernel) (pa_cons (pv 2) pa_nil)) pa_nil))))
      (pss_cons (ps_asg (pe_op op_mod (pe_op op_add (pe_ix (r := rIxL K) ix_list (pv 6) (pv 7) (fun _ _ => rfl)) (pe_call (ok_law_of T) (hr.mono (by decide)) rfl T.law_of.m T.law_of.F.kp T.law_of.b .nil pass0 (pa_cons (pv 0) (pa_cons (pe_lst (pa_cons pe_int (pa_cons pe_int (pa_cons pe_int (pa_cons pe_int pa_nil))))) pa_nil)))) pe_int) (pg_sub (pv 6) (pv 7) set_list))
      (pss_cons (ps_par3 (i := 8) (j := 9) (l := 10) rfl sc_law_right.nd rfl rfl rfl (by decide) (by decide) (by decide) rfl rfl rfl (pa_cons (pe_call (ok_law_maps T) (hr.mono (by decide)) rfl T.law_maps.m T.law_maps.F.kp T.law_maps.b .nil pass0 (pa_cons (pv 0) (pa_cons (pv 1) pa_nil))) (pa_cons (pe_call (ok_law_take T) (hr.mono (by decide)) rfl T.law_take.m T.law_take.F.kp T.law_take.b .nil pass0 (pa_cons (pv 0) (pa_cons pe_int pa_nil))) (pa_cons (pe_call (ok_law_take T) (hr.mono (by decide)) rfl T.law_take.m T.law_take.F.kp T.law_take.b .nil pass0 (pa_cons (pv 0) (pa_cons (pe_op op_shlC pe_int (pv 1)) pa_nil))) pa_nil))) (by rfl))
      (pss_cons (ps_set (i := 11) sc_law_right.nd rfl (Or.inl rfl) (pe_tup (pa_cons (pv 9) (pa_cons (pv 8) (pa_cons (pv 10) (pa_cons (pv 2) pa_nil))))))
      (pss_cons (ps_set (i := 12) sc_law_right.nd rfl (Or.inl rfl) (pe_lst (pa_cons (pe_call (ok_marked_alike T) (hr.mono (by decide)) rfl T.marked_alike.m T.marked_alike.F.kp T.marked_alike.b .nil pass0 (pa_cons (pv 11) (pa_cons (pe_op op_catA (pe_slice sl_tupA (pv 11) po_none (po_some pe_int)) (pe_tup (pa_cons (pv 5) pa_nil))) pa_nil))) (pa_cons (pe_call (ok_marked_alike T) (hr.mono (by decide)) rfl T.marked_alike.m T.marked_alike.F.kp T.marked_alike.b .nil pass0 (pa_cons (pe_op op_catA (pe_slice sl_tupA (pv 11) po_none (po_some pe_int)) (pe_tup (pa_cons (pe_callTy call_tuple_of (by rfl) T.z_tuple (by decide +kernel) (pa_cons (pv 6) pa_nil)) pa_nil))) (pa_cons (pe_call GL (hr.mono (by decide)) rfl T.law_lists.m T.law_lists.F.kp T.law_lists.b .nil pass0 (pa_cons (pv 11) pa_nil)) pa_nil))) (pa_cons (pe_call (ok_marked_alike T) (hr.mono (by decide)) rfl T.marked_alike.m T.marked_alike.F.kp T.marked_alike.b .nil pass0 (pa_cons (pv 11) (pa_cons (pe_op op_catA (pe_op op_catA (pe_tup (pa_cons (pe_op op_mod (pe_op op_add (pv 9) pe_int) pe_int) pa_nil)) (pe_slice sl_tupA (pv 11) (po_some pe_int) (po_some pe_int))) (pe_tup (pa_cons (pv 5) pa_nil))) pa_nil))) pa_nil)))))
      (pss_cons (ps_if (pt_not (pt_val (pe_call GS (hr.mono (by decide)) rfl T.law_same.m T.law_same.F.kp T.law_same.b .nil pass0 (pa_cons (pv 12) (pa_cons (pe_lst (pa_cons pe_bl (pa_cons (pe_cmpR (op_eqD hu) (pe_call (ok_law_turns T) (hr.mono (by decide)) rfl T.law_turns.m T.law_turns.F.kp T.law_turns.b .nil pass0 (pa_cons (pv 6) pa_nil)) (pv 4) (nomark _)) (pa_cons pe_bl pa_nil)))) pa_nil))))) (pss_one (ps_ret pe_bl)) pss_nil)
      (pss_cons (ps_set (i := 13) sc_law_right.nd rfl (Or.inl rfl) (pe_call (ok_plain_marks T) (hr.mono (by decide)) rfl T.plain_marks.m T.plain_marks.F.kp T.plain_marks.b .nil pass0 (pa_cons (pv 2) pa_nil)))
      (pss_cons (ps_if (PW.pt (pw_or (pt_not (pt_val (pe_call (ok_law_are_marks T) (hr.mono (by decide)) rfl T.law_are_marks.m T.law_are_marks.F.kp T.law_are_marks.b .nil pass0 (pa_cons (pv 13) (pa_cons (pv 1) pa_nil))))) (pw_or (pt_not (pt_val (pe_call (ok_law_is_plain T) (hr.mono (by decide)) rfl T.law_is_plain.m T.law_is_plain.F.kp T.law_is_plain.b .nil pass0 (pa_cons (pv 13) pa_nil)))) (pw_or1 (pt_cmpR (op_neD hu) (pe_call (ok_law_turns T) (hr.mono (by decide)) rfl T.law_turns.m T.law_turns.F.kp T.law_turns.b .nil pass0 (pa_cons (pv 13) pa_nil)) (pv 4) (nomark _)))))) (pss_one (ps_ret pe_bl)) pss_nil)
      (pss_one (ps_ret (pe_call GS (hr.mono (by decide)) rfl T.law_same.m T.law_same.F.kp T.law_same.b .nil pass0 (pa_cons (pe_lst (pa_cons (pe_call (ok_plain_marks T) (hr.mono (by decide)) rfl T.plain_marks.m T.plain_marks.F.kp T.plain_marks.b .nil pass0 (pa_cons (pe_callTy call_list_of (by rfl) T.z_list (by decide +kernel) (pa_cons (pv 5) pa_nil)) pa_nil)) (pa_cons (pe_call (ok_plain_marks T) (hr.mono (by decide)) rfl T.plain_marks.m T.plain_marks.F.kp T.plain_marks.b .nil pass0 (pa_cons (pv 3) pa_nil)) pa_nil))) (pa_cons (pe_lst (pa_cons (pv 13) (pa_cons (pe_op op_repC (pe_tup (pa_cons pe_int pa_nil)) (pe_callB call_lenC (by rfl) T.z_len (by decide +kernel) (pa_cons (pv 2) pa_nil))) pa_nil))) pa_nil))))))))))))))))))), ?_⟩
    obtain ⟨tx, htx⟩ := hT.at
    -- how many wires
    refine ⟨_, rfl, by show 6 ≤ sizeLine; decide, fun l hl => ?_⟩
    have nlt : l ≠ t := fun z => by rw [z, htx] at hl; cases hl
    refine ⟨t, l, [2, 3, 1, 4, 0, 3].map V.int, 0, rfl, hT.same (Same.new hl), by decide, SqL.of upd_same, nlt, by decide, by decide, fun j v H1 hv k1 hT1 => ?_⟩
    obtain ⟨u, hu5, rfl⟩ := ints_pick hv
    have hn : ∃ n : Nat, 1 + u = (n : Int) ∧ 1 ≤ n ∧ n ≤ 5 := by
      have : ∀ u ∈ [(2 : Int), 3, 1, 4, 0, 3], 0 ≤ u ∧ u ≤ 4 := by decide
      have := this u hu5
      exact ⟨(1 + u).toNat, by omega, by omega, by omega⟩
    obtain ⟨n, en, hn1, hn5⟩ := hn
    have h32 := pow_bnd hn5
    have hp2 : 2 ≤ 2 ^ n := Nat.pow_le_pow_right (n := 2) (by decide) (show 1 ≤ n from hn1)
    refine ⟨_, _, rfl, rfl, ?_⟩
    dsimp only
    rw [en]
    -- marks, and marks that turn nothing
    refine ⟨_, rfl, _, rfl, t, n, _, rfl, hT1, by decide, hn1, hn5, fun a ms H2 k2 hT2 hA2 hml hm8 => ?_⟩
    refine ⟨_, rfl, _, rfl, t, n, _, rfl, hT2, by decide, hn1, hn5, fun z zs H3 k3 hT3 hZ3 hz => ?_⟩
    obtain ⟨tx2, htx2⟩ := hT2.at
    have hA3 := SqT.mut htx2 k3 hA2
    have hzt := zero_turns hz
    have hzl := hz.1
    refine ⟨_, _, rfl, ?_⟩
    -- the turns
    refine ⟨_, rfl, a, ms, rfl, .inr hA3, by omega, fun H4 b s4 hB4 => ?_⟩
    have F4 : Fx K t a z b ms zs H4 191 := ⟨(hT3.same s4).mono (by decide), Same.tup s4 hA3, Same.tup s4 hZ3, hB4⟩
    have htl := turns_len ms
    refine ⟨_, rfl, a, ms, n, rfl, .inr F4.A, hml, hn5, fun p1 H5 s5 hp1 => ?_⟩
    have F5 := F4.same s5
    refine ⟨_, rfl, z, _, rfl, .inr F5.Z, fun l2 hl2 => ⟨l2, zs, n, rfl, .inl (SqL.of upd_same), hzl, hn5, fun p2 H6 s6 hp2' => ?_⟩⟩
    rw [hzt] at hp2'
    have s56 : Same H5 H6 := (Same.new hl2).trans s6
    have F6 := F5.same s56
    refine ⟨by show 2 ≤ sizeLine; decide, fun g hg => ?_⟩
    refine ⟨_, rfl, by show 1 ≤ sizeLine; decide, fun u0 hu0 => ?_⟩
    refine ⟨_, rfl, 1, n, rfl, rfl, by decide, by omega, u0, ((1 * 2 ^ n : Nat) : Int), _, rfl, rfl, SqT.of upd_same, by simp, by omega, by omega, by decide, fun q H7 s7 hq => ?_⟩
    rw [Int.toNat_natCast, Nat.one_mul, rep_flat] at hq
    have s67 : Same (upd H6 g (.lst [.ref p1, .ref p2])) H7 := (Same.new hu0).trans s7
    refine ⟨by show 2 ≤ sizeLine; decide, fun d hd => ?_⟩
    have s6d : Same H6 (upd H7 d (.lst [.ref b, .ref q])) := ((Same.new hg).trans s67).trans (Same.new hd)
    refine ⟨.ref g, .ref d, .list [.tuple (dInts (turnsM ms)), .tuple (dInts (List.replicate (2 ^ n) 0))], rfl, ?_, ?_, sm_pair (by omega) (by rw [List.length_replicate]; omega), fun H8 s8 => ?_⟩
    · exact .lst (SqL.of (Same.new hd _ _ (s67 _ _ upd_same))) (.cons (dpTupI (Same.tup (s56.trans s6d) hp1)) (.cons (dpTupI (Same.tup s6d hp2')) .nil))
    · exact .lst (SqL.of upd_same) (.cons (dpTupI (F6.same s6d).B) (.cons (dpTupI (Same.tup (Same.new hd) hq)) .nil))
    have F8 := (F6.same s6d).same s8
    refine ⟨true, rfl, ?_⟩
    -- the sums, twice
    refine ⟨_, rfl, _, rfl, _, rfl, _, rfl, t, a, b, ms, n, _, rfl, F8.T, by decide, F8.A, hml, hn1, hn5, F8.B, fun H9 k9 hT9 => ⟨true, rfl, ?_⟩⟩
    have F9 := F8.keep k9 hT9
    refine ⟨_, rfl, _, rfl, _, rfl, by show 1 ≤ sizeLine; decide, fun u1 hu1 => ?_⟩
    refine ⟨_, rfl, 1, n, rfl, rfl, by decide, by omega, u1, ((1 * 2 ^ n : Nat) : Int), _, rfl, rfl, SqT.of upd_same, by simp, by omega, by omega, by decide, fun q2 H10 s10 hq2 => ?_⟩
    rw [Int.toNat_natCast, Nat.one_mul, rep_flat] at hq2
    have F10 := F9.same ((Same.new hu1).trans s10)
    refine ⟨t, z, q2, zs, n, _, rfl, F10.T, by decide, F10.Z, hzl, hn1, hn5, by rw [hzt]; exact hq2, fun H11 k11 hT11 => ⟨true, rfl, ?_⟩⟩
    have F11 := F10.keep k11 hT11
    -- marks that turn alike, and others
    refine ⟨_, rfl, _, rfl, _, rfl, t, 2, _, rfl, F11.T, by decide, by decide, by decide, fun r H12 r0 r1 k12 hT12 => ?_⟩
    have F12 := F11.keep k12 hT12
    refine ⟨_, _, rfl, rfl, .inl (by decide), _, _, rfl, rfl, a, z, ms, zs, 1 + 2 * r, rfl, F12.A, F12.Z, by omega, by omega, by omega, by omega, fun al H13 s13 hal13 => ?_⟩
    have F13 := F12.same s13
    have hat : turnsM (addM ms zs (1 + 2 * r)) = turnsM ms := added_turns hml hz
    have hall : (addM ms zs (1 + 2 * r)).length = ms.length := addM_len (by omega)
    generalize addM ms zs (1 + 2 * r) = alk at hal13 hat hall
    refine ⟨_, rfl, a, _, rfl, .inr F13.A, fun f hf => ⟨_, _, rfl, ?_⟩⟩
    obtain ⟨tx13, htx13⟩ := F13.T.at
    have ntf : t ≠ f := ne_of_none htx13 hf
    have F14 := F13.same (Same.new (o := .lst (ms.map V.int)) hf)
    have hal14 := Same.tup (Same.new (o := .lst (ms.map V.int)) hf) hal13
    have hf14 : upd H13 f (.lst (ms.map V.int)) f = some (.lst (ms.map V.int)) := upd_same
    generalize upd H13 f (.lst (ms.map V.int)) = H14 at F14 hal14 hf14
    refine ⟨_, rfl, _, rfl, a, _, rfl, .inr F14.A, t, _, _, rfl, F14.T, by decide, by rw [List.length_map]; omega, by rw [List.length_map]; omega, fun j H15 j0 j1 k15 hT15 => ?_⟩
    obtain ⟨j, rfl⟩ := Int.eq_ofNat_of_zero_le j0
    rw [List.length_map] at j1
    have jl : j < ms.length := by omega
    obtain ⟨tx14, htx14⟩ := F14.T.at
    have F15 := F14.keep k15 hT15
    have hf15 := k15 _ _ (Ne.symm ntf) hf14
    have hal15 := SqT.mut htx14 k15 hal14
    obtain ⟨tx15, htx15⟩ := F15.T.at
    refine ⟨_, rfl, _, rfl, f, _, j, _, rfl, rfl, SqL.of hf15, atI_nat (ints_get jl), _, rfl, by show 4 ≤ sizeLine; decide, fun l3 hl3 => ?_⟩
    have nl3t : l3 ≠ t := fun z => by rw [z, htx15] at hl3; cases hl3
    refine ⟨t, l3, [4, 1, 2, 6].map V.int, _, rfl, F15.T.same (Same.new hl3), by decide, SqL.of upd_same, nl3t, by decide, by decide, fun j2 v2 H16 hv2 k16 hT16 => ?_⟩
    obtain ⟨u2, _, rfl⟩ := ints_pick hv2
    have k1516 : Keep t H15 H16 := (Keep.of (Same.new hl3)).trans k16
    have F16 := F15.keep k1516 hT16
    have hf16 := k1516 _ _ (Ne.symm ntf) hf15
    have hal16 := SqT.mut htx15 k1516 hal15
    refine ⟨_, _, rfl, rfl, _, _, rfl, rfl, (by show (0 : Int) < 8; decide), _, rfl, _, rfl, f, _, j, j, rfl, rfl, hf16, ixN_nat (by rw [List.length_map]; exact jl), ?_⟩
    have F17 := F16.set (ys := (ms.map V.int).set j (.int ((ms.getD j 0 + u2) % 8))) hf16 ntf
    have hal17 := SqT.mut hf16 (Keep.upd (o := .lst ((ms.map V.int).set j (.int ((ms.getD j 0 + u2) % 8))))) hal16
    have hf17 : upd H16 f (.lst ((ms.map V.int).set j (.int ((ms.getD j 0 + u2) % 8)))) f = some (.lst ((ms.set j ((ms.getD j 0 + u2) % 8)).map V.int)) := by rw [upd_same, List.map_set]
    have hol : (ms.set j ((ms.getD j 0 + u2) % 8)).length = ms.length := List.length_set ..
    dsimp only
    generalize upd H16 f (.lst ((ms.map V.int).set j (.int ((ms.getD j 0 + u2) % 8)))) = H17 at F17 hal17 hf17
    generalize ms.set j ((ms.getD j 0 + u2) % 8) = os at hf17 hol
    -- a marked turn
    refine ⟨_, rfl, _, rfl, t, n, _, rfl, F17.T, by decide, hn1, hn5, fun mp rows H18 k18 hT18 hmp18 hrl hI hrb => ?_⟩
    obtain ⟨tx17, htx17⟩ := F17.T.at
    have F18 := F17.keep k18 hT18
    have hf18 := k18 _ _ (Ne.symm ntf) hf17
    have hal18 := SqT.mut htx17 k18 hal17
    refine ⟨_, rfl, t, 8, _, rfl, F18.T, by decide, by decide, by decide, fun tn H19 tn0 tn1 k19 hT19 => ?_⟩
    obtain ⟨tx18, htx18⟩ := F18.T.at
    have F19 := F18.keep k19 hT19
    have hf19 := k19 _ _ (Ne.symm ntf) hf18
    have hal19 := SqT.mut htx18 k19 hal18
    have hmp19 := SqT.mut htx18 k19 hmp18
    refine ⟨_, rfl, _, rfl, 1, n, rfl, rfl, by decide, by omega, t, ((1 * 2 ^ n : Nat) : Int), _, rfl, F19.T, by decide, by omega, by omega, fun fl H20 fl0 fl1 k20 hT20 => ?_⟩
    obtain ⟨tx19, htx19⟩ := F19.T.at
    have F20 := F19.keep k20 hT20
    have hf20 := k20 _ _ (Ne.symm ntf) hf19
    have hal20 := SqT.mut htx19 k20 hal19
    have hmp20 : SqT K H20 mp ((lotI rows).map V.int) := SqT.mut htx19 k20 hmp19
    refine ⟨_, _, _, rfl, ?_⟩
    have hml5 : (lotI rows).length ≤ 5 := by unfold lotI; rw [List.length_map]; omega
    generalize lotI rows = mi at hmp20 hml5
    refine ⟨_, rfl, _, rfl, _, rfl, _, rfl, by show 4 ≤ sizeLine; decide, fun o ho => ?_⟩
    have sO := Same.new (o := .tup [.int tn, .ref mp, .int fl, .ref a]) ho
    have hO : SqT K (upd H20 o (.tup [.int tn, .ref mp, .int fl, .ref a])) o [.int tn, .ref mp, .int fl, .ref a] := SqT.of upd_same
    have F21 := F20.same sO
    have hf21 := sO _ _ hf20
    have hal21 := Same.tup sO hal20
    have hmp21 := Same.tup sO hmp20
    generalize upd H20 o (.tup [.int tn, .ref mp, .int fl, .ref a]) = H21 at F21 hf21 hal21 hmp21 hO
    -- alike
    refine ⟨_, rfl, _, rfl, _, rfl, o, _, rfl, hO, fun z => absurd z.2 (show ¬ HT.sIx 4 4 (some 3) = 4 by decide), fun _ p hp => ?_⟩
    rw [cut3]
    refine ⟨_, rfl, by show 1 ≤ sizeLine; decide, fun e he => ⟨p, e, _, _, rfl, rfl, Same.tup (Same.new he) (SqT.of upd_same), SqT.of upd_same, (by show 4 ≤ sizeLine; decide), fun z => (by cases z), fun _ z => (by cases z), fun _ _ q3 hq3 => ?_⟩⟩
    have s22 := ((Same.new (o := .tup [.int tn, .ref mp, .int fl]) hp).trans (Same.new (o := .tup [.ref al]) he)).trans (Same.new (o := .tup ([.int tn, .ref mp, .int fl] ++ [.ref al])) hq3)
    refine ⟨.ref o, .ref q3, dMk tn mi fl ms, dMk tn mi fl alk, tn, tn, mi, mi, fl, fl, ms, alk, rfl, dp_mk (Same.tup s22 hO) (Same.tup s22 hmp21) (Same.tup s22 F21.A), nice_mk (by omega) (by omega), tupD_mk _ _ _ _,
      dp_mk (SqT.of upd_same) (Same.tup s22 hmp21) (Same.tup s22 hal21), nice_mk (by omega) (by omega), tupD_mk _ _ _ _, hml5, rfl, by omega, by omega, fun H23 s23 => ?_⟩
    rw [show (decide (tn = tn ∧ mi = mi ∧ fl = fl) && decide (turnsM ms = turnsM alk)) = true by rw [hat]; simp]
    have s2123 := s22.trans s23
    have F23 := F21.same s2123
    have hf23 := s2123 _ _ hf21
    have hal23 := Same.tup s2123 hal21
    have hmp23 := Same.tup s2123 hmp21
    have hO23 := Same.tup s2123 hO
    -- others
    refine ⟨_, rfl, _, rfl, o, _, rfl, hO23, fun z => absurd z.2 (show ¬ HT.sIx 4 4 (some 3) = 4 by decide), fun _ p2 hp2 => ?_⟩
    rw [cut3]
    refine ⟨_, rfl, f, _, rfl, .inl ⟨SqL.of (Same.new hp2 _ _ hf23), fun tp htp => ?_⟩⟩
    refine ⟨by show 1 ≤ sizeLine; decide, fun e2 he2 => ⟨p2, e2, _, _, rfl, rfl, Same.tup ((Same.new htp).trans (Same.new he2)) (SqT.of upd_same), SqT.of upd_same, (by show 4 ≤ sizeLine; decide), fun z => (by cases z), fun _ z => (by cases z), fun _ _ q4 hq4 => ?_⟩⟩
    have s24 := (((Same.new (o := .tup [.int tn, .ref mp, .int fl]) hp2).trans (Same.new (o := .tup (os.map V.int)) htp)).trans (Same.new (o := .tup [.ref tp]) he2)).trans (Same.new (o := .tup ([.int tn, .ref mp, .int fl] ++ [.ref tp])) hq4)
    have htp24 : SqT K (upd (upd (upd (upd H23 p2 (.tup [.int tn, .ref mp, .int fl])) tp (.tup (os.map V.int))) e2 (.tup [.ref tp])) q4 (.tup ([.int tn, .ref mp, .int fl] ++ [.ref tp]))) tp (os.map V.int) := Same.tup ((Same.new he2).trans (Same.new hq4)) (SqT.of upd_same)
    have hq424 : SqT K (upd (upd (upd (upd H23 p2 (.tup [.int tn, .ref mp, .int fl])) tp (.tup (os.map V.int))) e2 (.tup [.ref tp])) q4 (.tup ([.int tn, .ref mp, .int fl] ++ [.ref tp]))) q4 [.int tn, .ref mp, .int fl, .ref tp] := SqT.of upd_same
    generalize upd (upd (upd (upd H23 p2 (.tup [.int tn, .ref mp, .int fl])) tp (.tup (os.map V.int))) e2 (.tup [.ref tp])) q4 (.tup ([.int tn, .ref mp, .int fl] ++ [.ref tp])) = H24 at s24 htp24 hq424
    have F24 := F23.same s24
    have hmp24 := Same.tup s24 hmp23
    have hO24 := Same.tup s24 hO23
    have hin : ∀ (j : Nat) (x : V) (d : Int ⊕ List Int), [V.int tn, .ref mp, .int fl, .ref a][j]? = some x → [Sum.inl tn, Sum.inr mi, Sum.inl fl, Sum.inr ms][j]? = some d → InR K H24 x d := by
      intro j x d h1 h2
      match j with
      | 0 => cases h1; cases h2; exact rfl
      | 1 => cases h1; cases h2; exact ⟨mp, rfl, hmp24, by omega⟩
      | 2 => cases h1; cases h2; exact rfl
      | 3 => cases h1; cases h2; exact ⟨a, rfl, F24.A, by omega⟩
      | j + 4 => cases h1
    refine ⟨_, rfl, o, _, [.inl tn, .inr mi, .inl fl, .inr ms], rfl, hO24, rfl, by show 4 ≤ 1000; decide, hin, fun lp ys H25 s25 hlp hyl hout => ?_⟩
    match ys, hyl with
    | [y0, y1, y2, y3], _ =>
    have o0 : y0 = .int tn := hout 0 y0 _ rfl rfl
    have o2 : y2 = .int fl := hout 2 y2 _ rfl rfl
    obtain ⟨g1, rfl, _, hg1⟩ : ∃ p, y1 = .ref p ∧ p ≠ lp ∧ H25 p = some (.lst (mi.map V.int)) := hout 1 y1 (.inr mi) rfl rfl
    obtain ⟨g3, rfl, _, hg3⟩ : ∃ p, y3 = .ref p ∧ p ≠ lp ∧ H25 p = some (.lst (ms.map V.int)) := hout 3 y3 (.inr ms) rfl rfl
    subst o0 o2
    refine ⟨.ref q4, .ref lp, dMk tn mi fl os, lMk tn mi fl ms, tn, tn, mi, mi, fl, fl, os, ms, rfl, dp_mk (Same.tup s25 hq424) (Same.tup s25 hmp24) (Same.tup s25 htp24), nice_mk (by omega) (by omega), tupD_mk _ _ _ _,
      .lst (SqL.of hlp) (.cons (.int _) (.cons (dpListI (SqL.of hg1)) (.cons (.int _) (.cons (dpListI (SqL.of hg3)) .nil)))), nice_lk (by omega) (by omega), tupD_lk _ _ _ _, hml5, rfl, by omega, by omega, fun H26 s26 => ?_⟩
    rw [show (decide (tn = tn ∧ mi = mi ∧ fl = fl) && decide (turnsM os = turnsM ms)) = decide (turnsM os = turnsM ms) by simp]
    have s2326 := (s24.trans s25).trans s26
    have F26 := F23.same s2326
    have hf26 := s2326 _ _ hf23
    have hal26 := Same.tup s2326 hal23
    have hmp26 := Same.tup s2326 hmp23
    have hO26 := Same.tup s2326 hO23
    -- turned by another
    refine ⟨_, rfl, _, rfl, _, _, rfl, rfl, _, _, rfl, rfl, (by show (0 : Int) < 8; decide), by show 1 ≤ sizeLine; decide, fun e3 he3 => ?_⟩
    refine ⟨_, rfl, _, rfl, _, rfl, o, _, rfl, Same.tup (Same.new he3) hO26, fun z => absurd z.1 (show ¬ HT.sIx 4 0 (some 1) = 0 by decide), fun _ p3 hp3 => ?_⟩
    rw [show cutV [V.int tn, .ref mp, .int fl, .ref a] (some 1) (some 3) = [.ref mp, .int fl] from rfl]
    refine ⟨e3, p3, _, _, rfl, rfl, Same.tup (Same.new hp3) (SqT.of upd_same), SqT.of upd_same, (by show 3 ≤ sizeLine; decide), fun z => (by cases z), fun _ z => (by cases z), fun _ _ q5 hq5 => ?_⟩
    refine ⟨_, rfl, by show 1 ≤ sizeLine; decide, fun e4 he4 => ⟨q5, e4, _, _, rfl, rfl, Same.tup (Same.new he4) (SqT.of upd_same), SqT.of upd_same, (by show 4 ≤ sizeLine; decide), fun z => (by cases z), fun _ z => (by cases z), fun _ _ q6 hq6 => ?_⟩⟩
    have s27 := ((((Same.new (o := .tup [.int ((tn + 1) % 8)]) he3).trans (Same.new (o := .tup [.ref mp, .int fl]) hp3)).trans (Same.new (o := .tup ([.int ((tn + 1) % 8)] ++ [.ref mp, .int fl])) hq5)).trans (Same.new (o := .tup [.ref al]) he4)).trans (Same.new (o := .tup (([.int ((tn + 1) % 8)] ++ [.ref mp, .int fl]) ++ [.ref al])) hq6)
    have hq627 : SqT K (upd (upd (upd (upd (upd H26 e3 (.tup [.int ((tn + 1) % 8)])) p3 (.tup [.ref mp, .int fl])) q5 (.tup ([.int ((tn + 1) % 8)] ++ [.ref mp, .int fl]))) e4 (.tup [.ref al])) q6 (.tup (([.int ((tn + 1) % 8)] ++ [.ref mp, .int fl]) ++ [.ref al]))) q6 [.int ((tn + 1) % 8), .ref mp, .int fl, .ref al] := SqT.of upd_same
    generalize (upd (upd (upd (upd (upd H26 e3 (.tup [.int ((tn + 1) % 8)])) p3 (.tup [.ref mp, .int fl])) q5 (.tup ([.int ((tn + 1) % 8)] ++ [.ref mp, .int fl]))) e4 (.tup [.ref al])) q6 (.tup (([.int ((tn + 1) % 8)] ++ [.ref mp, .int fl]) ++ [.ref al]))) = H27 at s27 hq627
    have F27 := F26.same s27
    refine ⟨.ref o, .ref q6, dMk tn mi fl ms, dMk ((tn + 1) % 8) mi fl alk, tn, (tn + 1) % 8, mi, mi, fl, fl, ms, alk, rfl, dp_mk (Same.tup s27 hO26) (Same.tup s27 hmp26) F27.A, nice_mk (by omega) (by omega), tupD_mk _ _ _ _,
      dp_mk hq627 (Same.tup s27 hmp26) (Same.tup s27 hal26), nice_mk (by omega) (by omega), tupD_mk _ _ _ _, hml5, rfl, by omega, by omega, fun H28 s28 => ?_⟩
    rw [show (decide (tn = (tn + 1) % 8 ∧ mi = mi ∧ fl = fl) && decide (turnsM ms = turnsM alk)) = false by rw [decide_eq_false (fun z => by have := z.1; omega)]; rfl]
    have s2628 := s27.trans s28
    have F28 := F26.same s2628
    have hf28 := s2628 _ _ hf26
    have hal28 := Same.tup s2628 hal26
    refine ⟨by show 3 ≤ sizeLine; decide, fun gg hgg => ?_⟩
    -- what was got and what is due
    have F29 := F28.same (Same.new (o := .lst [.bl true, .bl (decide (turnsM os = turnsM ms)), .bl false]) hgg)
    have hf29 := Same.new (o := .lst [.bl true, .bl (decide (turnsM os = turnsM ms)), .bl false]) hgg _ _ hf28
    have hal29 := Same.tup (Same.new (o := .lst [.bl true, .bl (decide (turnsM os = turnsM ms)), .bl false]) hgg) hal28
    have hg29 : upd H28 gg (.lst [.bl true, .bl (decide (turnsM os = turnsM ms)), .bl false]) gg = some (.lst [.bl true, .bl (decide (turnsM os = turnsM ms)), .bl false]) := upd_same
    generalize upd H28 gg (.lst [.bl true, .bl (decide (turnsM os = turnsM ms)), .bl false]) = H29 at F29 hf29 hal29 hg29
    refine ⟨_, rfl, _, rfl, f, os, rfl, .inl (SqL.of hf29), by omega, fun H30 b2 s30 hb2 => ?_⟩
    have F30 := F29.same s30
    have htlo := turns_len os
    refine ⟨_, rfl, _, _, dpTupI hb2, dpTupI F30.B, shaped_ints _, shaped_ints _, ?_⟩
    rw [eqv_ints]
    refine ⟨by show 3 ≤ sizeLine; decide, fun d2 hd2 => ?_⟩
    refine ⟨.ref gg, .ref d2, .list [.bool true, .bool (decide (turnsM os = turnsM ms)), .bool false], rfl, .lst (SqL.of (Same.new hd2 _ _ (s30 _ _ hg29))) (.cons (.bl _) (.cons (.bl _) (.cons (.bl _) .nil))), .lst (SqL.of upd_same) (.cons (.bl _) (.cons (.bl _) (.cons (.bl _) .nil))), ?_, fun H31 s31 => ?_⟩
    · refine .inr ⟨_, .inl rfl, (by show 3 ≤ 1000; decide), fun e he => ?_⟩
      rcases List.mem_cons.mp he with rfl | he
      · exact Sm.of0 (.inr (.inl ⟨_, rfl⟩))
      · rcases List.mem_cons.mp he with rfl | he
        · exact Sm.of0 (.inr (.inl ⟨_, rfl⟩))
        · rw [List.mem_singleton.mp he]
          exact Sm.of0 (.inr (.inl ⟨_, rfl⟩))
    refine ⟨true, rfl, ?_⟩
    have s2931 := (s30.trans (Same.new (o := .lst [.bl true, .bl (decide (turnsM os = turnsM ms)), .bl false]) hd2)).trans s31
    have F31 := F29.same s2931
    have hal31 := Same.tup s2931 hal29
    -- plain marks
    refine ⟨_, rfl, a, ms, n, rfl, .inr F31.A, hml, hn5, fun pl H32 s32 hpl => ?_⟩
    have F32 := F31.same s32
    have hal32 := Same.tup s32 hal31
    have hpll := plainBy_length n (turnsM ms)
    have hprng : ∀ (j : Nat) (u : Int), (plainBy n (turnsM ms))[j]? = some u → 0 ≤ u ∧ u < plainTop (j + 1) ∧ u < 8 := fun j u hj => plain_range hn5 hj
    have hpt := plain_turns hn5 hml
    have hpal : plainBy n (turnsM alk) = plainBy n (turnsM ms) := by rw [hat]
    have hpz : plainBy n (turnsM zs) = List.replicate (2 ^ n - 1) 0 := by rw [hzt]; exact plain_zero n hn5
    generalize plainBy n (turnsM ms) = ps at hpl hpll hprng hpt hpal
    refine ⟨_, rfl, _, rfl, pl, ps, n, rfl, hpl, hn5, hpll, fun u hu => ?_, fun H33 s33 => ⟨true, rfl, ?_⟩⟩
    · obtain ⟨j, hj⟩ := List.mem_iff_getElem?.mp hu
      exact ⟨(hprng j u hj).1, (hprng j u hj).2.2⟩
    refine ⟨_, rfl, pl, ps, rfl, Same.tup s33 hpl, by omega, fun j u hj => (hprng j u hj).2.1, fun H34 s34 => ⟨true, rfl, ?_⟩⟩
    have hpl34 := Same.tup (s33.trans s34) hpl
    refine ⟨_, rfl, pl, ps, rfl, .inr hpl34, by omega, fun H35 b3 s35 hb3 => ?_⟩
    have s3235 := (s33.trans s34).trans s35
    have F35 := F32.same s3235
    refine ⟨_, rfl, _, _, dpTupI hb3, dpTupI F35.B, shaped_ints _, shaped_ints _, ?_⟩
    rw [eqv_ints, decide_eq_true hpt]
    refine ⟨_, rfl, ?_⟩
    have hal35 := Same.tup s3235 hal32
    have hpl35 := Same.tup s35 hpl34
    -- plain marks, twice
    refine ⟨_, rfl, al, _, rfl, .inr hal35, fun l5 hl5 => ⟨l5, alk, n, rfl, .inl (SqL.of upd_same), by omega, hn5, fun pa H36 s36 hpa => ?_⟩⟩
    have s3536 := (Same.new (o := .lst (alk.map V.int)) hl5).trans s36
    have F36 := F35.same s3536
    rw [hpal] at hpa
    refine ⟨_, rfl, z, zs, n, rfl, .inr F36.Z, hzl, hn5, fun pz H37 s37 hpz' => ?_⟩
    rw [hpz] at hpz'
    have s3537 := s3536.trans s37
    have F37 := F35.same s3537
    refine ⟨by show 2 ≤ sizeLine; decide, fun g5 hg5 => ?_⟩
    refine ⟨_, rfl, by show 1 ≤ sizeLine; decide, fun u5 hu5' => ?_⟩
    have s37u := (Same.new (o := .lst [.ref pa, .ref pz]) hg5).trans (Same.new (o := .tup [.int 0]) hu5')
    refine ⟨_, rfl, a, _, rfl, .inr (F37.same s37u).A, u5, ((ms.map V.int).length : Nat), _, rfl, rfl, SqT.of upd_same, by simp, by rw [List.length_map]; omega, by rw [List.length_map]; omega, by decide, fun q7 H38 s38 hq7 => ?_⟩
    rw [Int.toNat_natCast, List.length_map, hml, rep_flat] at hq7
    refine ⟨by show 2 ≤ sizeLine; decide, fun d5 hd5 => ?_⟩
    have sEnd := (s37u.trans s38).trans (Same.new (o := .lst [.ref pl, .ref q7]) hd5)
    refine ⟨.ref g5, .ref d5, .list [.tuple (dInts ps), .tuple (dInts (List.replicate (2 ^ n - 1) 0))], rfl, ?_, ?_, sm_pair (by omega) (by rw [List.length_replicate]; omega), fun H39 s39 => k H39⟩
    · exact .lst (SqL.of (((Same.new hu5').trans s38).trans (Same.new hd5) _ _ upd_same)) (.cons (dpTupI (Same.tup (s37.trans sEnd) hpa)) (.cons (dpTupI (Same.tup sEnd hpz')) .nil))
    · exact .lst (SqL.of upd_same) (.cons (dpTupI (Same.tup (s3537.trans sEnd) hpl35)) (.cons (dpTupI (Same.tup (Same.new hd5) hq7)) .nil))
end
end E8
set_option Elab.async false
set_option linter.all false
set_option maxRecDepth 100000
set_option maxHeartbeats 4000000
/-! D21: the law's word by hand, the law. -/
namespace E8
open PySem PySem.Spec PyProof.Rows L2
theorem hand_turns : turnsM (List.replicate 15 1) = turnsM (List.replicate 15 0) := by decide +kernel
theorem hand_plain : plainBy 2 (turnsM [2, 2, 6]) = [6, 6, 2] := by decide +kernel
theorem hand_first : firstSum 2 [0, 7, 1] = some [1] := by decide +kernel
theorem hand_rest : restM 2 [0, 7, 1] [1] = 1 := by decide +kernel
theorem hand_turn3 : turnsM [0, 0, 3] = [0, 3, 3, 0] := by decide +kernel
section
variable {P : Program} {w : World} {K : PySem.W.Frag} {mg : Str → Option Value} {base : Heap}
def spBh : Sp := fun vs H Q _ => vs = [] ∧ ∀ H', Same H H' → Q (.bl true) H'
theorem ok_law_by_hand_right (T : Txt K mg) : FnOk P w K mg base CX0 7 T.law_by_hand_right.f T.law_by_hand_right.fd [] spBh := by
  have GS := ok_same (P := P) (w := w) (base := base) T 3 (by decide)
  refine T.law_by_hand_right.F.ok sc_law_by_hand_right (fun vs H Q E h => ?_) (fun cdv A outer s H vs Q E hr h => ?_)
  · obtain ⟨rfl, _⟩ := h; rfl
  · obtain ⟨rfl, k⟩ := h
    refine ⟨_, (pss_cons (ps_set (i := 0) sc_law_by_hand_right.nd rfl (Or.inl rfl) (pe_tup (pa_cons pe_int (pa_cons (pe_tup (pa_cons pe_int (pa_cons pe_int (pa_cons pe_int (pa_cons pe_int pa_nil))))) (pa_cons pe_int (pa_cons (pe_op op_repC (pe_tup (pa_cons pe_int pa_nil)) pe_int) pa_nil))))))
      (pss_cons (ps_set (i := 1) sc_law_by_hand_right.nd rfl (Or.inl rfl) (pe_lst (pa_cons (pe_call (ok_marked_alike T) (hr.mono (by decide)) rfl T.marked_alike.m T.marked_alike.F.kp T.marked_alike.b .nil pass0 (pa_cons (pv 0) (pa_cons (pe_tup (pa_cons pe_int (pa_cons (pe_lst (pa_cons pe_int (pa_cons pe_int (pa_cons pe_int (pa_cons pe_int pa_nil))))) (pa_cons pe_int (pa_cons (pe_op op_repC (pe_tup (pa_cons pe_int pa_nil)) pe_int) pa_nil))))) pa_nil))) (pa_cons (pe_call (ok_plain_marks T) (hr.mono (by decide)) rfl T.plain_marks.m T.plain_marks.F.kp T.plain_marks.b .nil pass0 (pa_cons (pe_tup (pa_cons pe_int (pa_cons pe_int (pa_cons pe_int pa_nil)))) pa_nil)) (pa_cons (pe_call (ok_uneven_sum T) (hr.mono (by decide)) rfl T.uneven_sum.m T.uneven_sum.F.kp T.uneven_sum.b .nil passL (pa_cons (pe_lst (pa_cons pe_int (pa_cons pe_int (pa_cons pe_int pa_nil)))) pa_nil)) (pa_cons (pe_call (ok_turns_of T) (hr.mono (by decide)) rfl T.turns_of.m T.turns_of.F.kp T.turns_of.b .nil pass0 (pa_cons (pe_tup (pa_cons pe_int (pa_cons pe_int (pa_cons pe_int pa_nil)))) pa_nil)) pa_nil))))))
      (pss_one (ps_ret (pe_call GS (hr.mono (by decide)) rfl T.law_same.m T.law_same.F.kp T.law_same.b .nil pass0 (pa_cons (pv 1) (pa_cons (pe_lst (pa_cons pe_bl (pa_cons (pe_tup (pa_cons pe_int (pa_cons pe_int (pa_cons pe_int pa_nil)))) (pa_cons (pe_tup (pa_cons (pe_tup (pa_cons pe_int pa_nil)) (pa_cons pe_int pa_nil))) (pa_cons (pe_tup (pa_cons pe_int (pa_cons pe_int (pa_cons pe_int (pa_cons pe_int pa_nil))))) pa_nil))))) pa_nil))))))), ?_⟩
    -- the quad
    refine ⟨by show 4 ≤ sizeLine; decide, fun m1 hm1 => ⟨by show 1 ≤ sizeLine; decide, fun u1 hu1 => ?_⟩⟩
    refine ⟨u1, 15, _, rfl, rfl, SqT.of upd_same, by simp, by decide, by decide, by decide, fun q1 H1 s1 hq1 => ?_⟩
    have s01 := ((Same.new (o := .tup [.int 8, .int 4, .int 2, .int 1]) hm1).trans (Same.new (o := .tup [.int 1]) hu1)).trans s1
    have hm11 : SqT K H1 m1 ([8, 4, 2, 1].map V.int) := Same.tup ((Same.new (o := .tup [.int 1]) hu1).trans s1) (SqT.of upd_same)
    have hq11 : SqT K H1 q1 ((List.replicate 15 1).map V.int) := hq1
    refine ⟨by show 4 ≤ sizeLine; decide, fun o ho => ?_⟩
    have sO := Same.new (o := .tup [.int 0, .ref m1, .int 0, .ref q1]) ho
    have hO : SqT K (upd H1 o (.tup [.int 0, .ref m1, .int 0, .ref q1])) o [.int 0, .ref m1, .int 0, .ref q1] := SqT.of upd_same
    have hm12 := Same.tup sO hm11
    have hq12 := Same.tup sO hq11
    have s02 := s01.trans sO
    generalize upd H1 o (.tup [.int 0, .ref m1, .int 0, .ref q1]) = H2 at hO hm12 hq12 s02
    -- alike
    refine ⟨_, rfl, by show 4 ≤ sizeLine; decide, fun m2 hm2 => ⟨by show 1 ≤ sizeLine; decide, fun u2 hu2 => ?_⟩⟩
    refine ⟨u2, 15, _, rfl, rfl, SqT.of upd_same, by simp, by decide, by decide, by decide, fun q2 H3 s3 hq2 => ?_⟩
    have s23 := ((Same.new (o := .lst [.int 8, .int 4, .int 2, .int 1]) hm2).trans (Same.new (o := .tup [.int 0]) hu2)).trans s3
    have hm23 : H3 m2 = some (.lst ([8, 4, 2, 1].map V.int)) := s3 _ _ (Same.new hu2 _ _ upd_same)
    have hq23 : SqT K H3 q2 ((List.replicate 15 0).map V.int) := hq2
    refine ⟨by show 4 ≤ sizeLine; decide, fun o2 ho2 => ?_⟩
    have sO2 := Same.new (o := .tup [.int 0, .ref m2, .int 0, .ref q2]) ho2
    have s24 := s23.trans sO2
    have hd2 : Dp K (upd H3 o2 (.tup [.int 0, .ref m2, .int 0, .ref q2])) (.ref o2) (.tuple [.int 0, .list (dInts [8, 4, 2, 1]), .int 0, .tuple (dInts (List.replicate 15 0))]) :=
      .tup (SqT.of upd_same) (.cons (.int 0) (.cons (dpListI (SqL.of (sO2 _ _ hm23))) (.cons (.int 0) (.cons (dpTupI (Same.tup sO2 hq23)) .nil))))
    have hnice : Nice 2 (.tuple [.int 0, .list (dInts [8, 4, 2, 1]), .int 0, .tuple (dInts (List.replicate 15 0))]) := by
      refine .inr ⟨_, .inr rfl, (by show 4 ≤ 1000; decide), fun e he => ?_⟩
      rcases List.mem_cons.mp he with rfl | he
      · exact .inl ⟨_, rfl⟩
      · rcases List.mem_cons.mp he with rfl | he
        · exact (nice_seq (by decide)).1
        · rcases List.mem_cons.mp he with rfl | he
          · exact .inl ⟨_, rfl⟩
          · rw [List.mem_singleton.mp he]
            exact (nice_seq (by decide)).2
    refine ⟨.ref o, .ref o2, dMk 0 [8, 4, 2, 1] 0 (List.replicate 15 1), _, 0, 0, [8, 4, 2, 1], [8, 4, 2, 1], 0, 0, List.replicate 15 1, List.replicate 15 0, rfl, dp_mk (Same.tup s24 hO) (Same.tup s24 hm12) (Same.tup s24 hq12), nice_mk (by decide) (by decide), tupD_mk _ _ _ _,
      hd2, hnice, ?_, by decide, rfl, by decide, by decide, fun H5 s5 => ?_⟩
    · show PyData.tuple [.int 0, .tuple (tupAll (dInts [8, 4, 2, 1])), .int 0, .tuple (tupAll (dInts (List.replicate 15 0)))] = _
      rw [tupAll_ints, tupAll_ints]
      rfl
    rw [show (decide ((0 : Int) = 0 ∧ [(8 : Int), 4, 2, 1] = [8, 4, 2, 1] ∧ (0 : Int) = 0) && decide (turnsM (List.replicate 15 1) = turnsM (List.replicate 15 0))) = true by rw [hand_turns]; simp]
    have s05 := (s02.trans s24).trans s5
    -- plain, a sum, turns
    refine ⟨by show 3 ≤ sizeLine; decide, fun a1 ha1 => ⟨a1, [2, 2, 6], 2, rfl, .inr (SqT.of upd_same), by decide, by decide, fun p1 H6 s6 hp1 => ?_⟩⟩
    rw [hand_plain] at hp1
    have s56 := (Same.new (o := .tup [.int 2, .int 2, .int 6]) ha1).trans s6
    refine ⟨by show 3 ≤ sizeLine; decide, fun a2 ha2 => ⟨a2, [0, 7, 1], 2, rfl, .inl (SqL.of upd_same), by decide, by decide, fun lot hlot p2 c2 H7 s7 hp2 hc2 => ?_, fun z => by rw [hand_first] at z; cases z⟩⟩
    rw [hand_first] at hlot
    cases Option.some.inj hlot
    rw [hand_rest] at hp2
    have s67 := (Same.new (o := .lst [.int 0, .int 7, .int 1]) ha2).trans s7
    refine ⟨by show 3 ≤ sizeLine; decide, fun a3 ha3 => ⟨a3, [0, 0, 3], 2, rfl, .inr (SqT.of upd_same), by decide, by decide, fun p3 H8 s8 hp3 => ?_⟩⟩
    rw [hand_turn3] at hp3
    have s78 := (Same.new (o := .tup [.int 0, .int 0, .int 3]) ha3).trans s8
    refine ⟨by show 4 ≤ sizeLine; decide, fun g hg => ?_⟩
    have s89 := Same.new (o := .lst [.bl true, .ref p1, .ref p2, .ref p3]) hg
    have hg9 : upd H8 g (.lst [.bl true, .ref p1, .ref p2, .ref p3]) g = some (.lst [.bl true, .ref p1, .ref p2, .ref p3]) := upd_same
    generalize upd H8 g (.lst [.bl true, .ref p1, .ref p2, .ref p3]) = H9 at s89 hg9
    -- what is due
    refine ⟨_, rfl, by show 3 ≤ sizeLine; decide, fun e1 he1 => ⟨by show 1 ≤ sizeLine; decide, fun e2 he2 => ⟨by show 2 ≤ sizeLine; decide, fun e3 he3 => ⟨by show 4 ≤ sizeLine; decide, fun e4 he4 => ⟨by show 4 ≤ sizeLine; decide, fun d hd => ?_⟩⟩⟩⟩⟩
    have t1 := Same.new (o := .tup [.int 6, .int 6, .int 2]) he1
    have t2 := Same.new (o := .tup [.int 1]) he2
    have t3 := Same.new (o := .tup [.ref e2, .int 1]) he3
    have t4 := Same.new (o := .tup [.int 0, .int 3, .int 3, .int 0]) he4
    have t5 := Same.new (o := .lst [.bl true, .ref e1, .ref e3, .ref e4]) hd
    have t25 := ((t2.trans t3).trans t4).trans t5
    have t15 := t1.trans t25
    refine ⟨.ref g, .ref d, .list [.bool true, .tuple (dInts [6, 6, 2]), .tuple [lotD [1], .int 1], .tuple (dInts [0, 3, 3, 0])], rfl, ?_, ?_, ?_, fun H10 s10 => ?_⟩
    · refine .lst (SqL.of (t15 _ _ hg9)) (.cons (.bl true) (.cons (dpTupI (Same.tup (((s67.trans s78).trans s89).trans t15) hp1)) (.cons (.tup (Same.tup ((s78.trans s89).trans t15) hp2) (.cons (dpLot (Same.tup ((s78.trans s89).trans t15) hc2)) (.cons (.int 1) .nil))) (.cons (dpTupI (Same.tup (s89.trans t15) hp3)) .nil))))
    · exact .lst (SqL.of upd_same) (.cons (.bl true) (.cons (dpTupI (Same.tup t25 (SqT.of upd_same))) (.cons (.tup (Same.tup (t4.trans t5) (SqT.of upd_same)) (.cons (dpLot (Same.tup ((t3.trans t4).trans t5) (SqT.of upd_same))) (.cons (.int 1) .nil))) (.cons (dpTupI (Same.tup t5 (SqT.of upd_same))) .nil))))
    · refine .inr ⟨_, .inl rfl, (by show 4 ≤ 1000; decide), fun e he => ?_⟩
      rcases List.mem_cons.mp he with rfl | he
      · exact Sm.of0 (.inr (.inl ⟨_, rfl⟩))
      · rcases List.mem_cons.mp he with rfl | he
        · exact sm_ints (by decide)
        · rcases List.mem_cons.mp he with rfl | he
          · refine .inr ⟨_, .inr rfl, (by show 2 ≤ 1000; decide), fun e he => ?_⟩
            rcases List.mem_cons.mp he with rfl | he
            · exact sm_ints (by decide)
            · rw [List.mem_singleton.mp he]
              exact Sm.of0 (.inr (.inr ⟨_, rfl⟩))
          · rw [List.mem_singleton.mp he]
            exact sm_ints (by decide)
    · exact k H10 (((((((s05.trans s56).trans s67).trans s78).trans s89).trans t15)).trans s10)
def spLaw (K : PySem.W.Frag) : Sp := fun vs H Q _ => ∃ (a : Addr) (ns : List Int), vs = [.ref a] ∧ SqL K H a (ns.map V.int) ∧ ns.length ≤ 63 ∧ ∀ H', Q (.bl true) H'
theorem ok_law (T : Txt K mg) : FnOk P w K mg base CX0 9 T.law.f T.law.fd ["_law_script"] (spLaw K) := by
  refine T.law.F.ok sc_law (fun vs H Q E h => ?_) (fun cdv A outer s H vs Q E hr h => ?_)
  · obtain ⟨a, ns, rfl, _⟩ := h; rfl
  · obtain ⟨a, ns, rfl, hS, hl, k⟩ := h
    refine ⟨_, (pss_one (ps_ret (pe_and (pe_call0 (ok_law_by_hand_right T) (hr.mono (by decide)) rfl T.law_by_hand_right.m T.law_by_hand_right.F.kp T.law_by_hand_right.b .nil pass0) (pe_one (pe_call (ok_law_right T) (hr.mono (by decide)) rfl T.law_right.m T.law_right.F.kp T.law_right.b .nil pass0 (pa_cons (pe_call (ok_law_box T) (hr.mono (by decide)) rfl T.law_box.m T.law_box.F.kp T.law_box.b .nil pass0 (pa_cons (pe_call (ok_law_cells T) (hr.mono (by decide)) rfl T.law_cells.m T.law_cells.F.kp T.law_cells.b .nil pass0 (pa_cons (pv 0) (pa_cons pe_int pa_nil))) (pa_cons pe_int pa_nil))) pa_nil)))))), ?_⟩
    refine ⟨rfl, fun H1 s1 => ⟨true, rfl, ?_⟩⟩
    refine ⟨_, rfl, a, ns, rfl, Same.seq s1 hS, hl, fun p c H2 s2 hp => ⟨p, c, rfl, SqL.of hp, fun q H3 s3 hq0 hT => ⟨q, rfl, hT, fun H4 => k H4⟩⟩⟩
end
end E8
set_option Elab.async false
set_option linter.all false
set_option maxRecDepth 100000
set_option maxHeartbeats 4000000
/-! D22: what the top has written, all of it; printed by mk.py. -/
namespace E8
open PySem PySem.Spec PyProof.Rows L2
theorem exm_own {K : PySem.W.Frag} {N : Addr} (hb : PySem.W.subIn K (.ref N) (.type "BaseException") = some true) (hc : PySem.W.isClsIn K N = true) (ht : PySem.W.typeIn K (.ref N) = some (.type "type")) (hs : PySem.W.subIn K (.ref N) (.ref N) = some true) :
    PySem.W.exmOne K (.ref N) (.ref N) = some true := by
  have hc2 : (PySem.W.clsIn K N).isSome = true := hc
  unfold PySem.W.exmOne PySem.W.kitCls
  simp [hb, ht, hs, hc2]
theorem all_mk {l : PySem.W.OpenLaw} {w : World} {K : PySem.W.Frag} {h : Heap} {mg : Str → Option Value} {fa NP : Addr} {tF tM : Tok} (X : K.In h) (G : h.Ns mainGlobals mg) (hfa : mg "law" = some (.ref fa))
    {f0 : Addr} {od0 an0 : Option Addr} {sl0 : Array (Option Value)} {oc0 kV0 dc0 pm0 cd0 ct0 : Value}
    (a0 : PySem.W.nsIn K mainGlobals "tupled" = some (some (.ref f0)))
    (l0 : K.lookup f0 = some ⟨oc0, od0, .func (PySem.W.fnOf "tupled" "tupled" (defArgs s_tupled) (defBody s_tupled) (defScope s_tupled) .none kV0 dc0 pm0 an0 cd0 ct0), sl0⟩)
    (c0 : PySem.W.codeIn K cd0 "tupled" = true) (k0 : PySem.W.keepIn K (.ref f0) = true)
    {f1 : Addr} {od1 an1 : Option Addr} {sl1 : Array (Option Value)} {oc1 kV1 dc1 pm1 cd1 ct1 : Value}
    (a1 : PySem.W.nsIn K mainGlobals "is_number" = some (some (.ref f1)))
    (l1 : K.lookup f1 = some ⟨oc1, od1, .func (PySem.W.fnOf "is_number" "is_number" (defArgs s_is_number) (defBody s_is_number) (defScope s_is_number) .none kV1 dc1 pm1 an1 cd1 ct1), sl1⟩)
    (c1 : PySem.W.codeIn K cd1 "is_number" = true) (k1 : PySem.W.keepIn K (.ref f1) = true)
    {f2 : Addr} {od2 an2 : Option Addr} {sl2 : Array (Option Value)} {oc2 kV2 dc2 pm2 cd2 ct2 : Value}
    (a2 : PySem.W.nsIn K mainGlobals "is_count" = some (some (.ref f2)))
    (l2 : K.lookup f2 = some ⟨oc2, od2, .func (PySem.W.fnOf "is_count" "is_count" (defArgs s_is_count) (defBody s_is_count) (defScope s_is_count) .none kV2 dc2 pm2 an2 cd2 ct2), sl2⟩)
    (c2 : PySem.W.codeIn K cd2 "is_count" = true) (k2 : PySem.W.keepIn K (.ref f2) = true)
    {f3 : Addr} {od3 an3 : Option Addr} {sl3 : Array (Option Value)} {oc3 kV3 dc3 pm3 cd3 ct3 : Value}
    (a3 : PySem.W.nsIn K mainGlobals "is_below" = some (some (.ref f3)))
    (l3 : K.lookup f3 = some ⟨oc3, od3, .func (PySem.W.fnOf "is_below" "is_below" (defArgs s_is_below) (defBody s_is_below) (defScope s_is_below) .none kV3 dc3 pm3 an3 cd3 ct3), sl3⟩)
    (c3 : PySem.W.codeIn K cd3 "is_below" = true) (k3 : PySem.W.keepIn K (.ref f3) = true)
    {f4 : Addr} {od4 an4 : Option Addr} {sl4 : Array (Option Value)} {oc4 kV4 dc4 pm4 cd4 ct4 : Value}
    (a4 : PySem.W.nsIn K mainGlobals "is_tuple_of" = some (some (.ref f4)))
    (l4 : K.lookup f4 = some ⟨oc4, od4, .func (PySem.W.fnOf "is_tuple_of" "is_tuple_of" (defArgs s_is_tuple_of) (defBody s_is_tuple_of) (defScope s_is_tuple_of) .none kV4 dc4 pm4 an4 cd4 ct4), sl4⟩)
    (c4 : PySem.W.codeIn K cd4 "is_tuple_of" = true) (k4 : PySem.W.keepIn K (.ref f4) = true)
    {f5 : Addr} {od5 an5 : Option Addr} {sl5 : Array (Option Value)} {oc5 kV5 dc5 pm5 cd5 ct5 : Value}
    (a5 : PySem.W.nsIn K mainGlobals "ascends" = some (some (.ref f5)))
    (l5 : K.lookup f5 = some ⟨oc5, od5, .func (PySem.W.fnOf "ascends" "ascends" (defArgs s_ascends) (defBody s_ascends) (defScope s_ascends) .none kV5 dc5 pm5 an5 cd5 ct5), sl5⟩)
    (c5 : PySem.W.codeIn K cd5 "ascends" = true) (k5 : PySem.W.keepIn K (.ref f5) = true)
    {f6 : Addr} {od6 an6 : Option Addr} {sl6 : Array (Option Value)} {oc6 kV6 dc6 pm6 cd6 ct6 : Value}
    (a6 : PySem.W.nsIn K mainGlobals "is_number_set" = some (some (.ref f6)))
    (l6 : K.lookup f6 = some ⟨oc6, od6, .func (PySem.W.fnOf "is_number_set" "is_number_set" (defArgs s_is_number_set) (defBody s_is_number_set) (defScope s_is_number_set) .none kV6 dc6 pm6 an6 cd6 ct6), sl6⟩)
    (c6 : PySem.W.codeIn K cd6 "is_number_set" = true) (k6 : PySem.W.keepIn K (.ref f6) = true)
    {f7 : Addr} {od7 an7 : Option Addr} {sl7 : Array (Option Value)} {oc7 kV7 dc7 pm7 cd7 ct7 : Value}
    (a7 : PySem.W.nsIn K mainGlobals "parity" = some (some (.ref f7)))
    (l7 : K.lookup f7 = some ⟨oc7, od7, .func (PySem.W.fnOf "parity" "parity" (defArgs s_parity) (defBody s_parity) (defScope s_parity) .none kV7 dc7 pm7 an7 cd7 ct7), sl7⟩)
    (c7 : PySem.W.codeIn K cd7 "parity" = true) (k7 : PySem.W.keepIn K (.ref f7) = true)
    {f8 : Addr} {od8 an8 : Option Addr} {sl8 : Array (Option Value)} {oc8 kV8 dc8 pm8 cd8 ct8 : Value}
    (a8 : PySem.W.nsIn K mainGlobals "wire_bit" = some (some (.ref f8)))
    (l8 : K.lookup f8 = some ⟨oc8, od8, .func (PySem.W.fnOf "wire_bit" "wire_bit" (defArgs s_wire_bit) (defBody s_wire_bit) (defScope s_wire_bit) .none kV8 dc8 pm8 an8 cd8 ct8), sl8⟩)
    (c8 : PySem.W.codeIn K cd8 "wire_bit" = true) (k8 : PySem.W.keepIn K (.ref f8) = true)
    {f9 : Addr} {od9 an9 : Option Addr} {sl9 : Array (Option Value)} {oc9 kV9 dc9 pm9 cd9 ct9 : Value}
    (a9 : PySem.W.nsIn K mainGlobals "sure_few" = some (some (.ref f9)))
    (l9 : K.lookup f9 = some ⟨oc9, od9, .func (PySem.W.fnOf "sure_few" "sure_few" (defArgs s_sure_few) (defBody s_sure_few) (defScope s_sure_few) .none kV9 dc9 pm9 an9 cd9 ct9), sl9⟩)
    (c9 : PySem.W.codeIn K cd9 "sure_few" = true) (k9 : PySem.W.keepIn K (.ref f9) = true)
    {f10 : Addr} {od10 an10 : Option Addr} {sl10 : Array (Option Value)} {oc10 kV10 dc10 pm10 cd10 ct10 : Value}
    (a10 : PySem.W.nsIn K mainGlobals "marked_told" = some (some (.ref f10)))
    (l10 : K.lookup f10 = some ⟨oc10, od10, .func (PySem.W.fnOf "marked_told" "marked_told" (defArgs s_marked_told) (defBody s_marked_told) (defScope s_marked_told) .none kV10 dc10 pm10 an10 cd10 ct10), sl10⟩)
    (c10 : PySem.W.codeIn K cd10 "marked_told" = true) (k10 : PySem.W.keepIn K (.ref f10) = true)
    {f11 : Addr} {od11 an11 : Option Addr} {sl11 : Array (Option Value)} {oc11 kV11 dc11 pm11 cd11 ct11 : Value}
    (a11 : PySem.W.nsIn K mainGlobals "both_told" = some (some (.ref f11)))
    (l11 : K.lookup f11 = some ⟨oc11, od11, .func (PySem.W.fnOf "both_told" "both_told" (defArgs s_both_told) (defBody s_both_told) (defScope s_both_told) .none kV11 dc11 pm11 an11 cd11 ct11), sl11⟩)
    (c11 : PySem.W.codeIn K cd11 "both_told" = true) (k11 : PySem.W.keepIn K (.ref f11) = true)
    {f12 : Addr} {od12 an12 : Option Addr} {sl12 : Array (Option Value)} {oc12 kV12 dc12 pm12 cd12 ct12 : Value}
    (a12 : PySem.W.nsIn K mainGlobals "wires_of" = some (some (.ref f12)))
    (l12 : K.lookup f12 = some ⟨oc12, od12, .func (PySem.W.fnOf "wires_of" "wires_of" (defArgs s_wires_of) (defBody s_wires_of) (defScope s_wires_of) .none kV12 dc12 pm12 an12 cd12 ct12), sl12⟩)
    (c12 : PySem.W.codeIn K cd12 "wires_of" = true) (k12 : PySem.W.keepIn K (.ref f12) = true)
    {f13 : Addr} {od13 an13 : Option Addr} {sl13 : Array (Option Value)} {oc13 kV13 dc13 pm13 cd13 ct13 : Value}
    (a13 : PySem.W.nsIn K mainGlobals "marks_told" = some (some (.ref f13)))
    (l13 : K.lookup f13 = some ⟨oc13, od13, .func (PySem.W.fnOf "marks_told" "marks_told" (defArgs s_marks_told) (defBody s_marks_told) (defScope s_marks_told) .none kV13 dc13 pm13 an13 cd13 ct13), sl13⟩)
    (c13 : PySem.W.codeIn K cd13 "marks_told" = true) (k13 : PySem.W.keepIn K (.ref f13) = true)
    {f14 : Addr} {od14 an14 : Option Addr} {sl14 : Array (Option Value)} {oc14 kV14 dc14 pm14 cd14 ct14 : Value}
    (a14 : PySem.W.nsIn K mainGlobals "turn_by" = some (some (.ref f14)))
    (l14 : K.lookup f14 = some ⟨oc14, od14, .func (PySem.W.fnOf "turn_by" "turn_by" (defArgs s_turn_by) (defBody s_turn_by) (defScope s_turn_by) .none kV14 dc14 pm14 an14 cd14 ct14), sl14⟩)
    (c14 : PySem.W.codeIn K cd14 "turn_by" = true) (k14 : PySem.W.keepIn K (.ref f14) = true)
    {f15 : Addr} {od15 an15 : Option Addr} {sl15 : Array (Option Value)} {oc15 kV15 dc15 pm15 cd15 ct15 : Value}
    (a15 : PySem.W.nsIn K mainGlobals "all_turns" = some (some (.ref f15)))
    (l15 : K.lookup f15 = some ⟨oc15, od15, .func (PySem.W.fnOf "all_turns" "all_turns" (defArgs s_all_turns) (defBody s_all_turns) (defScope s_all_turns) .none kV15 dc15 pm15 an15 cd15 ct15), sl15⟩)
    (c15 : PySem.W.codeIn K cd15 "all_turns" = true) (k15 : PySem.W.keepIn K (.ref f15) = true)
    {f16 : Addr} {od16 an16 : Option Addr} {sl16 : Array (Option Value)} {oc16 kV16 dc16 pm16 cd16 ct16 : Value}
    (a16 : PySem.W.nsIn K mainGlobals "marked_alike" = some (some (.ref f16)))
    (l16 : K.lookup f16 = some ⟨oc16, od16, .func (PySem.W.fnOf "marked_alike" "marked_alike" (defArgs s_marked_alike) (defBody s_marked_alike) (defScope s_marked_alike) .none kV16 dc16 pm16 an16 cd16 ct16), sl16⟩)
    (c16 : PySem.W.codeIn K cd16 "marked_alike" = true) (k16 : PySem.W.keepIn K (.ref f16) = true)
    {f17 : Addr} {od17 an17 : Option Addr} {sl17 : Array (Option Value)} {oc17 kV17 dc17 pm17 cd17 ct17 : Value}
    (a17 : PySem.W.nsIn K mainGlobals "lots_of" = some (some (.ref f17)))
    (l17 : K.lookup f17 = some ⟨oc17, od17, .func (PySem.W.fnOf "lots_of" "lots_of" (defArgs s_lots_of) (defBody s_lots_of) (defScope s_lots_of) .none kV17 dc17 pm17 an17 cd17 ct17), sl17⟩)
    (c17 : PySem.W.codeIn K cd17 "lots_of" = true) (k17 : PySem.W.keepIn K (.ref f17) = true)
    {f18 : Addr} {od18 an18 : Option Addr} {sl18 : Array (Option Value)} {oc18 kV18 dc18 pm18 cd18 ct18 : Value}
    (a18 : PySem.W.nsIn K mainGlobals "bits_of" = some (some (.ref f18)))
    (l18 : K.lookup f18 = some ⟨oc18, od18, .func (PySem.W.fnOf "bits_of" "bits_of" (defArgs s_bits_of) (defBody s_bits_of) (defScope s_bits_of) .none kV18 dc18 pm18 an18 cd18 ct18), sl18⟩)
    (c18 : PySem.W.codeIn K cd18 "bits_of" = true) (k18 : PySem.W.keepIn K (.ref f18) = true)
    {f19 : Addr} {od19 an19 : Option Addr} {sl19 : Array (Option Value)} {oc19 kV19 dc19 pm19 cd19 ct19 : Value}
    (a19 : PySem.W.nsIn K mainGlobals "rest_of_lot" = some (some (.ref f19)))
    (l19 : K.lookup f19 = some ⟨oc19, od19, .func (PySem.W.fnOf "rest_of_lot" "rest_of_lot" (defArgs s_rest_of_lot) (defBody s_rest_of_lot) (defScope s_rest_of_lot) .none kV19 dc19 pm19 an19 cd19 ct19), sl19⟩)
    (c19 : PySem.W.codeIn K cd19 "rest_of_lot" = true) (k19 : PySem.W.keepIn K (.ref f19) = true)
    {f20 : Addr} {od20 an20 : Option Addr} {sl20 : Array (Option Value)} {oc20 kV20 dc20 pm20 cd20 ct20 : Value}
    (a20 : PySem.W.nsIn K mainGlobals "uneven_sum" = some (some (.ref f20)))
    (l20 : K.lookup f20 = some ⟨oc20, od20, .func (PySem.W.fnOf "uneven_sum" "uneven_sum" (defArgs s_uneven_sum) (defBody s_uneven_sum) (defScope s_uneven_sum) .none kV20 dc20 pm20 an20 cd20 ct20), sl20⟩)
    (c20 : PySem.W.codeIn K cd20 "uneven_sum" = true) (k20 : PySem.W.keepIn K (.ref f20) = true)
    {f21 : Addr} {od21 an21 : Option Addr} {sl21 : Array (Option Value)} {oc21 kV21 dc21 pm21 cd21 ct21 : Value}
    (a21 : PySem.W.nsIn K mainGlobals "is_uneven_sum" = some (some (.ref f21)))
    (l21 : K.lookup f21 = some ⟨oc21, od21, .func (PySem.W.fnOf "is_uneven_sum" "is_uneven_sum" (defArgs s_is_uneven_sum) (defBody s_is_uneven_sum) (defScope s_is_uneven_sum) .none kV21 dc21 pm21 an21 cd21 ct21), sl21⟩)
    (c21 : PySem.W.codeIn K cd21 "is_uneven_sum" = true) (k21 : PySem.W.keepIn K (.ref f21) = true)
    {f22 : Addr} {od22 an22 : Option Addr} {sl22 : Array (Option Value)} {oc22 kV22 dc22 pm22 cd22 ct22 : Value}
    (a22 : PySem.W.nsIn K mainGlobals "turns_of" = some (some (.ref f22)))
    (l22 : K.lookup f22 = some ⟨oc22, od22, .func (PySem.W.fnOf "turns_of" "turns_of" (defArgs s_turns_of) (defBody s_turns_of) (defScope s_turns_of) .none kV22 dc22 pm22 an22 cd22 ct22), sl22⟩)
    (c22 : PySem.W.codeIn K cd22 "turns_of" = true) (k22 : PySem.W.keepIn K (.ref f22) = true)
    {f23 : Addr} {od23 an23 : Option Addr} {sl23 : Array (Option Value)} {oc23 kV23 dc23 pm23 cd23 ct23 : Value}
    (a23 : PySem.W.nsIn K mainGlobals "times_of" = some (some (.ref f23)))
    (l23 : K.lookup f23 = some ⟨oc23, od23, .func (PySem.W.fnOf "times_of" "times_of" (defArgs s_times_of) (defBody s_times_of) (defScope s_times_of) .none kV23 dc23 pm23 an23 cd23 ct23), sl23⟩)
    (c23 : PySem.W.codeIn K cd23 "times_of" = true) (k23 : PySem.W.keepIn K (.ref f23) = true)
    {f24 : Addr} {od24 an24 : Option Addr} {sl24 : Array (Option Value)} {oc24 kV24 dc24 pm24 cd24 ct24 : Value}
    (a24 : PySem.W.nsIn K mainGlobals "plain_by" = some (some (.ref f24)))
    (l24 : K.lookup f24 = some ⟨oc24, od24, .func (PySem.W.fnOf "plain_by" "plain_by" (defArgs s_plain_by) (defBody s_plain_by) (defScope s_plain_by) .none kV24 dc24 pm24 an24 cd24 ct24), sl24⟩)
    (c24 : PySem.W.codeIn K cd24 "plain_by" = true) (k24 : PySem.W.keepIn K (.ref f24) = true)
    {f25 : Addr} {od25 an25 : Option Addr} {sl25 : Array (Option Value)} {oc25 kV25 dc25 pm25 cd25 ct25 : Value}
    (a25 : PySem.W.nsIn K mainGlobals "plain_marks" = some (some (.ref f25)))
    (l25 : K.lookup f25 = some ⟨oc25, od25, .func (PySem.W.fnOf "plain_marks" "plain_marks" (defArgs s_plain_marks) (defBody s_plain_marks) (defScope s_plain_marks) .none kV25 dc25 pm25 an25 cd25 ct25), sl25⟩)
    (c25 : PySem.W.codeIn K cd25 "plain_marks" = true) (k25 : PySem.W.keepIn K (.ref f25) = true)
    {f26 : Addr} {od26 an26 : Option Addr} {sl26 : Array (Option Value)} {oc26 kV26 dc26 pm26 cd26 ct26 : Value}
    (a26 : PySem.W.nsIn K mainGlobals "_law_box" = some (some (.ref f26)))
    (l26 : K.lookup f26 = some ⟨oc26, od26, .func (PySem.W.fnOf "_law_box" "_law_box" (defArgs s_law_box) (defBody s_law_box) (defScope s_law_box) .none kV26 dc26 pm26 an26 cd26 ct26), sl26⟩)
    (c26 : PySem.W.codeIn K cd26 "_law_box" = true) (k26 : PySem.W.keepIn K (.ref f26) = true)
    {f27 : Addr} {od27 an27 : Option Addr} {sl27 : Array (Option Value)} {oc27 kV27 dc27 pm27 cd27 ct27 : Value}
    (a27 : PySem.W.nsIn K mainGlobals "_law_take" = some (some (.ref f27)))
    (l27 : K.lookup f27 = some ⟨oc27, od27, .func (PySem.W.fnOf "_law_take" "_law_take" (defArgs s_law_take) (defBody s_law_take) (defScope s_law_take) .none kV27 dc27 pm27 an27 cd27 ct27), sl27⟩)
    (c27 : PySem.W.codeIn K cd27 "_law_take" = true) (k27 : PySem.W.keepIn K (.ref f27) = true)
    {f28 : Addr} {od28 an28 : Option Addr} {sl28 : Array (Option Value)} {oc28 kV28 dc28 pm28 cd28 ct28 : Value}
    (a28 : PySem.W.nsIn K mainGlobals "_law_cells" = some (some (.ref f28)))
    (l28 : K.lookup f28 = some ⟨oc28, od28, .func (PySem.W.fnOf "_law_cells" "_law_cells" (defArgs s_law_cells) (defBody s_law_cells) (defScope s_law_cells) .none kV28 dc28 pm28 an28 cd28 ct28), sl28⟩)
    (c28 : PySem.W.codeIn K cd28 "_law_cells" = true) (k28 : PySem.W.keepIn K (.ref f28) = true)
    {f29 : Addr} {od29 an29 : Option Addr} {sl29 : Array (Option Value)} {oc29 kV29 dc29 pm29 cd29 ct29 : Value}
    (a29 : PySem.W.nsIn K mainGlobals "_law_of" = some (some (.ref f29)))
    (l29 : K.lookup f29 = some ⟨oc29, od29, .func (PySem.W.fnOf "_law_of" "_law_of" (defArgs s_law_of) (defBody s_law_of) (defScope s_law_of) .none kV29 dc29 pm29 an29 cd29 ct29), sl29⟩)
    (c29 : PySem.W.codeIn K cd29 "_law_of" = true) (k29 : PySem.W.keepIn K (.ref f29) = true)
    {f30 : Addr} {od30 an30 : Option Addr} {sl30 : Array (Option Value)} {oc30 kV30 dc30 pm30 cd30 ct30 : Value}
    (a30 : PySem.W.nsIn K mainGlobals "_law_pick" = some (some (.ref f30)))
    (l30 : K.lookup f30 = some ⟨oc30, od30, .func (PySem.W.fnOf "_law_pick" "_law_pick" (defArgs s_law_pick) (defBody s_law_pick) (defScope s_law_pick) .none kV30 dc30 pm30 an30 cd30 ct30), sl30⟩)
    (c30 : PySem.W.codeIn K cd30 "_law_pick" = true) (k30 : PySem.W.keepIn K (.ref f30) = true)
    {f31 : Addr} {od31 an31 : Option Addr} {sl31 : Array (Option Value)} {oc31 kV31 dc31 pm31 cd31 ct31 : Value}
    (a31 : PySem.W.nsIn K mainGlobals "_law_lists" = some (some (.ref f31)))
    (l31 : K.lookup f31 = some ⟨oc31, od31, .func (PySem.W.fnOf "_law_lists" "_law_lists" (defArgs s_law_lists) (defBody s_law_lists) (defScope s_law_lists) .none kV31 dc31 pm31 an31 cd31 ct31), sl31⟩)
    (c31 : PySem.W.codeIn K cd31 "_law_lists" = true) (k31 : PySem.W.keepIn K (.ref f31) = true)
    {f32 : Addr} {od32 an32 : Option Addr} {sl32 : Array (Option Value)} {oc32 kV32 dc32 pm32 cd32 ct32 : Value}
    (a32 : PySem.W.nsIn K mainGlobals "_law_same" = some (some (.ref f32)))
    (l32 : K.lookup f32 = some ⟨oc32, od32, .func (PySem.W.fnOf "_law_same" "_law_same" (defArgs s_law_same) (defBody s_law_same) (defScope s_law_same) .none kV32 dc32 pm32 an32 cd32 ct32), sl32⟩)
    (c32 : PySem.W.codeIn K cd32 "_law_same" = true) (k32 : PySem.W.keepIn K (.ref f32) = true)
    {f33 : Addr} {od33 an33 : Option Addr} {sl33 : Array (Option Value)} {oc33 kV33 dc33 pm33 cd33 ct33 : Value}
    (a33 : PySem.W.nsIn K mainGlobals "_law_subsets" = some (some (.ref f33)))
    (l33 : K.lookup f33 = some ⟨oc33, od33, .func (PySem.W.fnOf "_law_subsets" "_law_subsets" (defArgs s_law_subsets) (defBody s_law_subsets) (defScope s_law_subsets) .none kV33 dc33 pm33 an33 cd33 ct33), sl33⟩)
    (c33 : PySem.W.codeIn K cd33 "_law_subsets" = true) (k33 : PySem.W.keepIn K (.ref f33) = true)
    {f34 : Addr} {od34 an34 : Option Addr} {sl34 : Array (Option Value)} {oc34 kV34 dc34 pm34 cd34 ct34 : Value}
    (a34 : PySem.W.nsIn K mainGlobals "_law_is_number" = some (some (.ref f34)))
    (l34 : K.lookup f34 = some ⟨oc34, od34, .func (PySem.W.fnOf "_law_is_number" "_law_is_number" (defArgs s_law_is_number) (defBody s_law_is_number) (defScope s_law_is_number) .none kV34 dc34 pm34 an34 cd34 ct34), sl34⟩)
    (c34 : PySem.W.codeIn K cd34 "_law_is_number" = true) (k34 : PySem.W.keepIn K (.ref f34) = true)
    {f35 : Addr} {od35 an35 : Option Addr} {sl35 : Array (Option Value)} {oc35 kV35 dc35 pm35 cd35 ct35 : Value}
    (a35 : PySem.W.nsIn K mainGlobals "_law_par" = some (some (.ref f35)))
    (l35 : K.lookup f35 = some ⟨oc35, od35, .func (PySem.W.fnOf "_law_par" "_law_par" (defArgs s_law_par) (defBody s_law_par) (defScope s_law_par) .none kV35 dc35 pm35 an35 cd35 ct35), sl35⟩)
    (c35 : PySem.W.codeIn K cd35 "_law_par" = true) (k35 : PySem.W.keepIn K (.ref f35) = true)
    {f36 : Addr} {od36 an36 : Option Addr} {sl36 : Array (Option Value)} {oc36 kV36 dc36 pm36 cd36 ct36 : Value}
    (a36 : PySem.W.nsIn K mainGlobals "_law_ones" = some (some (.ref f36)))
    (l36 : K.lookup f36 = some ⟨oc36, od36, .func (PySem.W.fnOf "_law_ones" "_law_ones" (defArgs s_law_ones) (defBody s_law_ones) (defScope s_law_ones) .none kV36 dc36 pm36 an36 cd36 ct36), sl36⟩)
    (c36 : PySem.W.codeIn K cd36 "_law_ones" = true) (k36 : PySem.W.keepIn K (.ref f36) = true)
    {f37 : Addr} {od37 an37 : Option Addr} {sl37 : Array (Option Value)} {oc37 kV37 dc37 pm37 cd37 ct37 : Value}
    (a37 : PySem.W.nsIn K mainGlobals "_law_wire" = some (some (.ref f37)))
    (l37 : K.lookup f37 = some ⟨oc37, od37, .func (PySem.W.fnOf "_law_wire" "_law_wire" (defArgs s_law_wire) (defBody s_law_wire) (defScope s_law_wire) .none kV37 dc37 pm37 an37 cd37 ct37), sl37⟩)
    (c37 : PySem.W.codeIn K cd37 "_law_wire" = true) (k37 : PySem.W.keepIn K (.ref f37) = true)
    {f38 : Addr} {od38 an38 : Option Addr} {sl38 : Array (Option Value)} {oc38 kV38 dc38 pm38 cd38 ct38 : Value}
    (a38 : PySem.W.nsIn K mainGlobals "_law_turns" = some (some (.ref f38)))
    (l38 : K.lookup f38 = some ⟨oc38, od38, .func (PySem.W.fnOf "_law_turns" "_law_turns" (defArgs s_law_turns) (defBody s_law_turns) (defScope s_law_turns) .none kV38 dc38 pm38 an38 cd38 ct38), sl38⟩)
    (c38 : PySem.W.codeIn K cd38 "_law_turns" = true) (k38 : PySem.W.keepIn K (.ref f38) = true)
    {f39 : Addr} {od39 an39 : Option Addr} {sl39 : Array (Option Value)} {oc39 kV39 dc39 pm39 cd39 ct39 : Value}
    (a39 : PySem.W.nsIn K mainGlobals "_law_are_marks" = some (some (.ref f39)))
    (l39 : K.lookup f39 = some ⟨oc39, od39, .func (PySem.W.fnOf "_law_are_marks" "_law_are_marks" (defArgs s_law_are_marks) (defBody s_law_are_marks) (defScope s_law_are_marks) .none kV39 dc39 pm39 an39 cd39 ct39), sl39⟩)
    (c39 : PySem.W.codeIn K cd39 "_law_are_marks" = true) (k39 : PySem.W.keepIn K (.ref f39) = true)
    {f40 : Addr} {od40 an40 : Option Addr} {sl40 : Array (Option Value)} {oc40 kV40 dc40 pm40 cd40 ct40 : Value}
    (a40 : PySem.W.nsIn K mainGlobals "_law_maps" = some (some (.ref f40)))
    (l40 : K.lookup f40 = some ⟨oc40, od40, .func (PySem.W.fnOf "_law_maps" "_law_maps" (defArgs s_law_maps) (defBody s_law_maps) (defScope s_law_maps) .none kV40 dc40 pm40 an40 cd40 ct40), sl40⟩)
    (c40 : PySem.W.codeIn K cd40 "_law_maps" = true) (k40 : PySem.W.keepIn K (.ref f40) = true)
    {f41 : Addr} {od41 an41 : Option Addr} {sl41 : Array (Option Value)} {oc41 kV41 dc41 pm41 cd41 ct41 : Value}
    (a41 : PySem.W.nsIn K mainGlobals "_law_span" = some (some (.ref f41)))
    (l41 : K.lookup f41 = some ⟨oc41, od41, .func (PySem.W.fnOf "_law_span" "_law_span" (defArgs s_law_span) (defBody s_law_span) (defScope s_law_span) .none kV41 dc41 pm41 an41 cd41 ct41), sl41⟩)
    (c41 : PySem.W.codeIn K cd41 "_law_span" = true) (k41 : PySem.W.keepIn K (.ref f41) = true)
    {f42 : Addr} {od42 an42 : Option Addr} {sl42 : Array (Option Value)} {oc42 kV42 dc42 pm42 cd42 ct42 : Value}
    (a42 : PySem.W.nsIn K mainGlobals "_law_zero_marks" = some (some (.ref f42)))
    (l42 : K.lookup f42 = some ⟨oc42, od42, .func (PySem.W.fnOf "_law_zero_marks" "_law_zero_marks" (defArgs s_law_zero_marks) (defBody s_law_zero_marks) (defScope s_law_zero_marks) .none kV42 dc42 pm42 an42 cd42 ct42), sl42⟩)
    (c42 : PySem.W.codeIn K cd42 "_law_zero_marks" = true) (k42 : PySem.W.keepIn K (.ref f42) = true)
    {f43 : Addr} {od43 an43 : Option Addr} {sl43 : Array (Option Value)} {oc43 kV43 dc43 pm43 cd43 ct43 : Value}
    (a43 : PySem.W.nsIn K mainGlobals "_law_marks" = some (some (.ref f43)))
    (l43 : K.lookup f43 = some ⟨oc43, od43, .func (PySem.W.fnOf "_law_marks" "_law_marks" (defArgs s_law_marks) (defBody s_law_marks) (defScope s_law_marks) .none kV43 dc43 pm43 an43 cd43 ct43), sl43⟩)
    (c43 : PySem.W.codeIn K cd43 "_law_marks" = true) (k43 : PySem.W.keepIn K (.ref f43) = true)
    {f44 : Addr} {od44 an44 : Option Addr} {sl44 : Array (Option Value)} {oc44 kV44 dc44 pm44 cd44 ct44 : Value}
    (a44 : PySem.W.nsIn K mainGlobals "_law_added" = some (some (.ref f44)))
    (l44 : K.lookup f44 = some ⟨oc44, od44, .func (PySem.W.fnOf "_law_added" "_law_added" (defArgs s_law_added) (defBody s_law_added) (defScope s_law_added) .none kV44 dc44 pm44 an44 cd44 ct44), sl44⟩)
    (c44 : PySem.W.codeIn K cd44 "_law_added" = true) (k44 : PySem.W.keepIn K (.ref f44) = true)
    {f45 : Addr} {od45 an45 : Option Addr} {sl45 : Array (Option Value)} {oc45 kV45 dc45 pm45 cd45 ct45 : Value}
    (a45 : PySem.W.nsIn K mainGlobals "_law_lots" = some (some (.ref f45)))
    (l45 : K.lookup f45 = some ⟨oc45, od45, .func (PySem.W.fnOf "_law_lots" "_law_lots" (defArgs s_law_lots) (defBody s_law_lots) (defScope s_law_lots) .none kV45 dc45 pm45 an45 cd45 ct45), sl45⟩)
    (c45 : PySem.W.codeIn K cd45 "_law_lots" = true) (k45 : PySem.W.keepIn K (.ref f45) = true)
    {f46 : Addr} {od46 an46 : Option Addr} {sl46 : Array (Option Value)} {oc46 kV46 dc46 pm46 cd46 ct46 : Value}
    (a46 : PySem.W.nsIn K mainGlobals "_law_lot_bits" = some (some (.ref f46)))
    (l46 : K.lookup f46 = some ⟨oc46, od46, .func (PySem.W.fnOf "_law_lot_bits" "_law_lot_bits" (defArgs s_law_lot_bits) (defBody s_law_lot_bits) (defScope s_law_lot_bits) .none kV46 dc46 pm46 an46 cd46 ct46), sl46⟩)
    (c46 : PySem.W.codeIn K cd46 "_law_lot_bits" = true) (k46 : PySem.W.keepIn K (.ref f46) = true)
    {f47 : Addr} {od47 an47 : Option Addr} {sl47 : Array (Option Value)} {oc47 kV47 dc47 pm47 cd47 ct47 : Value}
    (a47 : PySem.W.nsIn K mainGlobals "_law_rest" = some (some (.ref f47)))
    (l47 : K.lookup f47 = some ⟨oc47, od47, .func (PySem.W.fnOf "_law_rest" "_law_rest" (defArgs s_law_rest) (defBody s_law_rest) (defScope s_law_rest) .none kV47 dc47 pm47 an47 cd47 ct47), sl47⟩)
    (c47 : PySem.W.codeIn K cd47 "_law_rest" = true) (k47 : PySem.W.keepIn K (.ref f47) = true)
    {f48 : Addr} {od48 an48 : Option Addr} {sl48 : Array (Option Value)} {oc48 kV48 dc48 pm48 cd48 ct48 : Value}
    (a48 : PySem.W.nsIn K mainGlobals "_law_is_plain" = some (some (.ref f48)))
    (l48 : K.lookup f48 = some ⟨oc48, od48, .func (PySem.W.fnOf "_law_is_plain" "_law_is_plain" (defArgs s_law_is_plain) (defBody s_law_is_plain) (defScope s_law_is_plain) .none kV48 dc48 pm48 an48 cd48 ct48), sl48⟩)
    (c48 : PySem.W.codeIn K cd48 "_law_is_plain" = true) (k48 : PySem.W.keepIn K (.ref f48) = true)
    {f49 : Addr} {od49 an49 : Option Addr} {sl49 : Array (Option Value)} {oc49 kV49 dc49 pm49 cd49 ct49 : Value}
    (a49 : PySem.W.nsIn K mainGlobals "_law_sum_told" = some (some (.ref f49)))
    (l49 : K.lookup f49 = some ⟨oc49, od49, .func (PySem.W.fnOf "_law_sum_told" "_law_sum_told" (defArgs s_law_sum_told) (defBody s_law_sum_told) (defScope s_law_sum_told) .none kV49 dc49 pm49 an49 cd49 ct49), sl49⟩)
    (c49 : PySem.W.codeIn K cd49 "_law_sum_told" = true) (k49 : PySem.W.keepIn K (.ref f49) = true)
    {f50 : Addr} {od50 an50 : Option Addr} {sl50 : Array (Option Value)} {oc50 kV50 dc50 pm50 cd50 ct50 : Value}
    (a50 : PySem.W.nsIn K mainGlobals "_law_sums_right" = some (some (.ref f50)))
    (l50 : K.lookup f50 = some ⟨oc50, od50, .func (PySem.W.fnOf "_law_sums_right" "_law_sums_right" (defArgs s_law_sums_right) (defBody s_law_sums_right) (defScope s_law_sums_right) .none kV50 dc50 pm50 an50 cd50 ct50), sl50⟩)
    (c50 : PySem.W.codeIn K cd50 "_law_sums_right" = true) (k50 : PySem.W.keepIn K (.ref f50) = true)
    {f51 : Addr} {od51 an51 : Option Addr} {sl51 : Array (Option Value)} {oc51 kV51 dc51 pm51 cd51 ct51 : Value}
    (a51 : PySem.W.nsIn K mainGlobals "_law_right" = some (some (.ref f51)))
    (l51 : K.lookup f51 = some ⟨oc51, od51, .func (PySem.W.fnOf "_law_right" "_law_right" (defArgs s_law_right) (defBody s_law_right) (defScope s_law_right) .none kV51 dc51 pm51 an51 cd51 ct51), sl51⟩)
    (c51 : PySem.W.codeIn K cd51 "_law_right" = true) (k51 : PySem.W.keepIn K (.ref f51) = true)
    {f52 : Addr} {od52 an52 : Option Addr} {sl52 : Array (Option Value)} {oc52 kV52 dc52 pm52 cd52 ct52 : Value}
    (a52 : PySem.W.nsIn K mainGlobals "_law_by_hand_right" = some (some (.ref f52)))
    (l52 : K.lookup f52 = some ⟨oc52, od52, .func (PySem.W.fnOf "_law_by_hand_right" "_law_by_hand_right" (defArgs s_law_by_hand_right) (defBody s_law_by_hand_right) (defScope s_law_by_hand_right) .none kV52 dc52 pm52 an52 cd52 ct52), sl52⟩)
    (c52 : PySem.W.codeIn K cd52 "_law_by_hand_right" = true) (k52 : PySem.W.keepIn K (.ref f52) = true)
    {f53 : Addr} {od53 an53 : Option Addr} {sl53 : Array (Option Value)} {oc53 kV53 dc53 pm53 cd53 ct53 : Value}
    (a53 : PySem.W.nsIn K mainGlobals "law" = some (some (.ref f53)))
    (l53 : K.lookup f53 = some ⟨oc53, od53, .func (PySem.W.fnOf "law" "law" (defArgs s_law) (defBody s_law) (defScope s_law) .none kV53 dc53 pm53 an53 cd53 ct53), sl53⟩)
    (c53 : PySem.W.codeIn K cd53 "law" = true) (k53 : PySem.W.keepIn K (.ref f53) = true)
    (z_int : PySem.W.nsIn K mainGlobals "int" = some none)
    (z_bool : PySem.W.nsIn K mainGlobals "bool" = some none)
    (z_list : PySem.W.nsIn K mainGlobals "list" = some none)
    (z_tuple : PySem.W.nsIn K mainGlobals "tuple" = some none)
    (z_str : PySem.W.nsIn K mainGlobals "str" = some none)
    (z_isinstance : PySem.W.nsIn K mainGlobals "isinstance" = some none)
    (z_len : PySem.W.nsIn K mainGlobals "len" = some none)
    (z_all : PySem.W.nsIn K mainGlobals "all" = some none)
    (z_zip : PySem.W.nsIn K mainGlobals "zip" = some none)
    (z_sum : PySem.W.nsIn K mainGlobals "sum" = some none)
    (z_enumerate : PySem.W.nsIn K mainGlobals "enumerate" = some none)
    (z_range : PySem.W.nsIn K mainGlobals "range" = some none)
    (z_abs : PySem.W.nsIn K mainGlobals "abs" = some none)
    (z_min : PySem.W.nsIn K mainGlobals "min" = some none)
    (z_sorted : PySem.W.nsIn K mainGlobals "sorted" = some none)
    (gFULL : PySem.W.nsIn K mainGlobals "FULL" = some (some (.int 8 tF))) (gMOST : PySem.W.nsIn K mainGlobals "MOST_WIRES" = some (some (.int 5 tM)))
    (gComb : PySem.W.nsIn K mainGlobals "combinations" = some (some (.type "itertools.combinations"))) (gNP : PySem.W.nsIn K mainGlobals "NoPaper" = some (some (.ref NP)))
    (xNP : PySem.W.excIn K NP [.type "ValueError", .type "Exception", .type "BaseException", .type "object"] "ValueError.__new__" = true) (kNP : PySem.W.keepIn K (.ref NP) = true)
    (bNP : PySem.W.subIn K (.ref NP) (.type "BaseException") = some true) (tNP : PySem.W.typeIn K (.ref NP) = some (.type "type")) (iNP : PySem.W.isClsIn K NP = true) (sNP : PySem.W.subIn K (.ref NP) (.ref NP) = some true) :
    ∃ fd : FuncData, (∀ (s : Shared) (v : Value), BindsTo s fd ⟨[v], []⟩ [("_law_script", v)]) ∧ ∀ base : Heap, K.In base → base.Ns mainGlobals mg → FnOk l.prog w K mg base CX0 9 fa fd ["_law_script"] (spLaw K) := by
  have e := hfa.symm.trans (PySem.W.mg_of X G a53)
  cases e
  have F0 := fun_mk (st := s_tupled) l0 c0 k0
  have b0 := F0.binds (ps := ["thing"]) fun _ _ _ _ _ _ us hl => match us, hl with | [_], _ => rfl
  have F1 := fun_mk (st := s_is_number) l1 c1 k1
  have b1 := F1.binds (ps := ["thing"]) fun _ _ _ _ _ _ us hl => match us, hl with | [_], _ => rfl
  have F2 := fun_mk (st := s_is_count) l2 c2 k2
  have b2 := F2.binds (ps := ["thing"]) fun _ _ _ _ _ _ us hl => match us, hl with | [_], _ => rfl
  have F3 := fun_mk (st := s_is_below) l3 c3 k3
  have b3 := F3.binds (ps := ["thing", "many"]) fun _ _ _ _ _ _ us hl => match us, hl with | [_, _], _ => rfl
  have F4 := fun_mk (st := s_is_tuple_of) l4 c4 k4
  have b4 := F4.binds (ps := ["thing", "size"]) fun _ _ _ _ _ _ us hl => match us, hl with | [_, _], _ => rfl
  have F5 := fun_mk (st := s_ascends) l5 c5 k5
  have b5 := F5.binds (ps := ["thing"]) fun _ _ _ _ _ _ us hl => match us, hl with | [_], _ => rfl
  have F6 := fun_mk (st := s_is_number_set) l6 c6 k6
  have b6 := F6.binds (ps := ["thing", "many"]) fun _ _ _ _ _ _ us hl => match us, hl with | [_, _], _ => rfl
  have F7 := fun_mk (st := s_parity) l7 c7 k7
  have b7 := F7.binds (ps := ["one", "other"]) fun _ _ _ _ _ _ us hl => match us, hl with | [_, _], _ => rfl
  have F8 := fun_mk (st := s_wire_bit) l8 c8 k8
  have b8 := F8.binds (ps := ["wires", "wire"]) fun _ _ _ _ _ _ us hl => match us, hl with | [_, _], _ => rfl
  have F9 := fun_mk (st := s_sure_few) l9 c9 k9
  have b9 := F9.binds (ps := ["wires"]) fun _ _ _ _ _ _ us hl => match us, hl with | [_], _ => rfl
  have F10 := fun_mk (st := s_marked_told) l10 c10 k10
  have b10 := F10.binds (ps := ["marked"]) fun _ _ _ _ _ _ us hl => match us, hl with | [_], _ => rfl
  have F11 := fun_mk (st := s_both_told) l11 c11 k11
  have b11 := F11.binds (ps := ["one", "other"]) fun _ _ _ _ _ _ us hl => match us, hl with | [_, _], _ => rfl
  have F12 := fun_mk (st := s_wires_of) l12 c12 k12
  have b12 := F12.binds (ps := ["many"]) fun _ _ _ _ _ _ us hl => match us, hl with | [_], _ => rfl
  have F13 := fun_mk (st := s_marks_told) l13 c13 k13
  have b13 := F13.binds (ps := ["marks"]) fun _ _ _ _ _ _ us hl => match us, hl with | [_], _ => rfl
  have F14 := fun_mk (st := s_turn_by) l14 c14 k14
  have b14 := F14.binds (ps := ["marks", "place"]) fun _ _ _ _ _ _ us hl => match us, hl with | [_, _], _ => rfl
  have F15 := fun_mk (st := s_all_turns) l15 c15 k15
  have b15 := F15.binds (ps := ["marks"]) fun _ _ _ _ _ _ us hl => match us, hl with | [_], _ => rfl
  have F16 := fun_mk (st := s_marked_alike) l16 c16 k16
  have b16 := F16.binds (ps := ["one", "other"]) fun _ _ _ _ _ _ us hl => match us, hl with | [_, _], _ => rfl
  have F17 := fun_mk (st := s_lots_of) l17 c17 k17
  have b17 := F17.binds (ps := ["wires", "least", "most"]) fun _ _ _ _ _ _ us hl => match us, hl with | [_, _, _], _ => rfl
  have F18 := fun_mk (st := s_bits_of) l18 c18 k18
  have b18 := F18.binds (ps := ["wires", "lot"]) fun _ _ _ _ _ _ us hl => match us, hl with | [_, _], _ => rfl
  have F19 := fun_mk (st := s_rest_of_lot) l19 c19 k19
  have b19 := F19.binds (ps := ["marks", "wires", "lot"]) fun _ _ _ _ _ _ us hl => match us, hl with | [_, _, _], _ => rfl
  have F20 := fun_mk (st := s_uneven_sum) l20 c20 k20
  have b20 := F20.binds (ps := ["marks"]) fun _ _ _ _ _ _ us hl => match us, hl with | [_], _ => rfl
  have F21 := fun_mk (st := s_is_uneven_sum) l21 c21 k21
  have b21 := F21.binds (ps := ["marks", "thing"]) fun _ _ _ _ _ _ us hl => match us, hl with | [_, _], _ => rfl
  have F22 := fun_mk (st := s_turns_of) l22 c22 k22
  have b22 := F22.binds (ps := ["marks"]) fun _ _ _ _ _ _ us hl => match us, hl with | [_], _ => rfl
  have F23 := fun_mk (st := s_times_of) l23 c23 k23
  have b23 := F23.binds (ps := ["turns", "wires", "lot"]) fun _ _ _ _ _ _ us hl => match us, hl with | [_, _, _], _ => rfl
  have F24 := fun_mk (st := s_plain_by) l24 c24 k24
  have b24 := F24.binds (ps := ["turns", "wires"]) fun _ _ _ _ _ _ us hl => match us, hl with | [_, _], _ => rfl
  have F25 := fun_mk (st := s_plain_marks) l25 c25 k25
  have b25 := F25.binds (ps := ["marks"]) fun _ _ _ _ _ _ us hl => match us, hl with | [_], _ => rfl
  have F26 := fun_mk (st := s_law_box) l26 c26 k26
  have b26 := F26.binds (ps := ["_law_script", "_law_k"]) fun _ _ _ _ _ _ us hl => match us, hl with | [_, _], _ => rfl
  have F27 := fun_mk (st := s_law_take) l27 c27 k27
  have b27 := F27.binds (ps := ["_law_tin", "_law_below_so"]) fun _ _ _ _ _ _ us hl => match us, hl with | [_, _], _ => rfl
  have F28 := fun_mk (st := s_law_cells) l28 c28 k28
  have b28 := F28.binds (ps := ["_law_script", "_law_most_so"]) fun _ _ _ _ _ _ us hl => match us, hl with | [_, _], _ => rfl
  have F29 := fun_mk (st := s_law_of) l29 c29 k29
  have b29 := F29.binds (ps := ["_law_tin", "_law_goods_so"]) fun _ _ _ _ _ _ us hl => match us, hl with | [_, _], _ => rfl
  have F30 := fun_mk (st := s_law_pick) l30 c30 k30
  have b30 := F30.binds (ps := ["_law_tin", "_law_goods_so", "_law_count_so"]) fun _ _ _ _ _ _ us hl => match us, hl with | [_, _, _], _ => rfl
  have F31 := fun_mk (st := s_law_lists) l31 c31 k31
  have b31 := F31.binds (ps := ["_law_matter"]) fun _ _ _ _ _ _ us hl => match us, hl with | [_], _ => rfl
  have F32 := fun_mk (st := s_law_same) l32 c32 k32
  have b32 := F32.binds (ps := ["_law_got", "_law_due"]) fun _ _ _ _ _ _ us hl => match us, hl with | [_, _], _ => rfl
  have F33 := fun_mk (st := s_law_subsets) l33 c33 k33
  have b33 := F33.binds (ps := ["_law_things_so"]) fun _ _ _ _ _ _ us hl => match us, hl with | [_], _ => rfl
  have F34 := fun_mk (st := s_law_is_number) l34 c34 k34
  have b34 := F34.binds (ps := ["_law_own"]) fun _ _ _ _ _ _ us hl => match us, hl with | [_], _ => rfl
  have F35 := fun_mk (st := s_law_par) l35 c35 k35
  have b35 := F35.binds (ps := ["_law_one_so", "_law_other_so"]) fun _ _ _ _ _ _ us hl => match us, hl with | [_, _], _ => rfl
  have F36 := fun_mk (st := s_law_ones) l36 c36 k36
  have b36 := F36.binds (ps := ["_law_own"]) fun _ _ _ _ _ _ us hl => match us, hl with | [_], _ => rfl
  have F37 := fun_mk (st := s_law_wire) l37 c37 k37
  have b37 := F37.binds (ps := ["_law_n_so", "_law_wire_so"]) fun _ _ _ _ _ _ us hl => match us, hl with | [_, _], _ => rfl
  have F38 := fun_mk (st := s_law_turns) l38 c38 k38
  have b38 := F38.binds (ps := ["_law_marks_so"]) fun _ _ _ _ _ _ us hl => match us, hl with | [_], _ => rfl
  have F39 := fun_mk (st := s_law_are_marks) l39 c39 k39
  have b39 := F39.binds (ps := ["_law_own", "_law_n_so"]) fun _ _ _ _ _ _ us hl => match us, hl with | [_, _], _ => rfl
  have F40 := fun_mk (st := s_law_maps) l40 c40 k40
  have b40 := F40.binds (ps := ["_law_tin", "_law_n_so"]) fun _ _ _ _ _ _ us hl => match us, hl with | [_, _], _ => rfl
  have F41 := fun_mk (st := s_law_span) l41 c41 k41
  have b41 := F41.binds (ps := ["_law_rows_so"]) fun _ _ _ _ _ _ us hl => match us, hl with | [_], _ => rfl
  have F42 := fun_mk (st := s_law_zero_marks) l42 c42 k42
  have b42 := F42.binds (ps := ["_law_tin", "_law_n_so"]) fun _ _ _ _ _ _ us hl => match us, hl with | [_, _], _ => rfl
  have F43 := fun_mk (st := s_law_marks) l43 c43 k43
  have b43 := F43.binds (ps := ["_law_tin", "_law_n_so"]) fun _ _ _ _ _ _ us hl => match us, hl with | [_, _], _ => rfl
  have F44 := fun_mk (st := s_law_added) l44 c44 k44
  have b44 := F44.binds (ps := ["_law_one_so", "_law_other_so", "_law_times_so"]) fun _ _ _ _ _ _ us hl => match us, hl with | [_, _, _], _ => rfl
  have F45 := fun_mk (st := s_law_lots) l45 c45 k45
  have b45 := F45.binds (ps := ["_law_n_so", "_law_least_so", "_law_most_so"]) fun _ _ _ _ _ _ us hl => match us, hl with | [_, _, _], _ => rfl
  have F46 := fun_mk (st := s_law_lot_bits) l46 c46 k46
  have b46 := F46.binds (ps := ["_law_n_so", "_law_lot_so"]) fun _ _ _ _ _ _ us hl => match us, hl with | [_, _], _ => rfl
  have F47 := fun_mk (st := s_law_rest) l47 c47 k47
  have b47 := F47.binds (ps := ["_law_marks_so", "_law_n_so", "_law_lot_so"]) fun _ _ _ _ _ _ us hl => match us, hl with | [_, _, _], _ => rfl
  have F48 := fun_mk (st := s_law_is_plain) l48 c48 k48
  have b48 := F48.binds (ps := ["_law_own"]) fun _ _ _ _ _ _ us hl => match us, hl with | [_], _ => rfl
  have F49 := fun_mk (st := s_law_sum_told) l49 c49 k49
  have b49 := F49.binds (ps := ["_law_marks_so"]) fun _ _ _ _ _ _ us hl => match us, hl with | [_], _ => rfl
  have F50 := fun_mk (st := s_law_sums_right) l50 c50 k50
  have b50 := F50.binds (ps := ["_law_tin", "_law_marks_so", "_law_n_so", "_law_turns_so"]) fun _ _ _ _ _ _ us hl => match us, hl with | [_, _, _, _], _ => rfl
  have F51 := fun_mk (st := s_law_right) l51 c51 k51
  have b51 := F51.binds (ps := ["_law_tin"]) fun _ _ _ _ _ _ us hl => match us, hl with | [_], _ => rfl
  have F52 := fun_mk (st := s_law_by_hand_right) l52 c52 k52
  have b52 := F52.binds (ps := []) fun _ _ _ _ _ _ us hl => match us, hl with | [], _ => rfl
  have F53 := fun_mk (st := s_law) l53 c53 k53
  have b53 := F53.binds (ps := ["_law_script"]) fun _ _ _ _ _ _ us hl => match us, hl with | [_], _ => rfl
  let T : Txt K mg := ⟨
    ⟨f0, _, F0, PySem.W.mg_of X G a0, b0⟩,
    ⟨f1, _, F1, PySem.W.mg_of X G a1, b1⟩,
    ⟨f2, _, F2, PySem.W.mg_of X G a2, b2⟩,
    ⟨f3, _, F3, PySem.W.mg_of X G a3, b3⟩,
    ⟨f4, _, F4, PySem.W.mg_of X G a4, b4⟩,
    ⟨f5, _, F5, PySem.W.mg_of X G a5, b5⟩,
    ⟨f6, _, F6, PySem.W.mg_of X G a6, b6⟩,
    ⟨f7, _, F7, PySem.W.mg_of X G a7, b7⟩,
    ⟨f8, _, F8, PySem.W.mg_of X G a8, b8⟩,
    ⟨f9, _, F9, PySem.W.mg_of X G a9, b9⟩,
    ⟨f10, _, F10, PySem.W.mg_of X G a10, b10⟩,
    ⟨f11, _, F11, PySem.W.mg_of X G a11, b11⟩,
    ⟨f12, _, F12, PySem.W.mg_of X G a12, b12⟩,
    ⟨f13, _, F13, PySem.W.mg_of X G a13, b13⟩,
    ⟨f14, _, F14, PySem.W.mg_of X G a14, b14⟩,
    ⟨f15, _, F15, PySem.W.mg_of X G a15, b15⟩,
    ⟨f16, _, F16, PySem.W.mg_of X G a16, b16⟩,
    ⟨f17, _, F17, PySem.W.mg_of X G a17, b17⟩,
    ⟨f18, _, F18, PySem.W.mg_of X G a18, b18⟩,
    ⟨f19, _, F19, PySem.W.mg_of X G a19, b19⟩,
    ⟨f20, _, F20, PySem.W.mg_of X G a20, b20⟩,
    ⟨f21, _, F21, PySem.W.mg_of X G a21, b21⟩,
    ⟨f22, _, F22, PySem.W.mg_of X G a22, b22⟩,
    ⟨f23, _, F23, PySem.W.mg_of X G a23, b23⟩,
    ⟨f24, _, F24, PySem.W.mg_of X G a24, b24⟩,
    ⟨f25, _, F25, PySem.W.mg_of X G a25, b25⟩,
    ⟨f26, _, F26, PySem.W.mg_of X G a26, b26⟩,
    ⟨f27, _, F27, PySem.W.mg_of X G a27, b27⟩,
    ⟨f28, _, F28, PySem.W.mg_of X G a28, b28⟩,
    ⟨f29, _, F29, PySem.W.mg_of X G a29, b29⟩,
    ⟨f30, _, F30, PySem.W.mg_of X G a30, b30⟩,
    ⟨f31, _, F31, PySem.W.mg_of X G a31, b31⟩,
    ⟨f32, _, F32, PySem.W.mg_of X G a32, b32⟩,
    ⟨f33, _, F33, PySem.W.mg_of X G a33, b33⟩,
    ⟨f34, _, F34, PySem.W.mg_of X G a34, b34⟩,
    ⟨f35, _, F35, PySem.W.mg_of X G a35, b35⟩,
    ⟨f36, _, F36, PySem.W.mg_of X G a36, b36⟩,
    ⟨f37, _, F37, PySem.W.mg_of X G a37, b37⟩,
    ⟨f38, _, F38, PySem.W.mg_of X G a38, b38⟩,
    ⟨f39, _, F39, PySem.W.mg_of X G a39, b39⟩,
    ⟨f40, _, F40, PySem.W.mg_of X G a40, b40⟩,
    ⟨f41, _, F41, PySem.W.mg_of X G a41, b41⟩,
    ⟨f42, _, F42, PySem.W.mg_of X G a42, b42⟩,
    ⟨f43, _, F43, PySem.W.mg_of X G a43, b43⟩,
    ⟨f44, _, F44, PySem.W.mg_of X G a44, b44⟩,
    ⟨f45, _, F45, PySem.W.mg_of X G a45, b45⟩,
    ⟨f46, _, F46, PySem.W.mg_of X G a46, b46⟩,
    ⟨f47, _, F47, PySem.W.mg_of X G a47, b47⟩,
    ⟨f48, _, F48, PySem.W.mg_of X G a48, b48⟩,
    ⟨f49, _, F49, PySem.W.mg_of X G a49, b49⟩,
    ⟨f50, _, F50, PySem.W.mg_of X G a50, b50⟩,
    ⟨f51, _, F51, PySem.W.mg_of X G a51, b51⟩,
    ⟨f52, _, F52, PySem.W.mg_of X G a52, b52⟩,
    ⟨fa, _, F53, PySem.W.mg_of X G a53, b53⟩,
    PySem.W.mg_none_of X G z_int,
    PySem.W.mg_none_of X G z_bool,
    PySem.W.mg_none_of X G z_list,
    PySem.W.mg_none_of X G z_tuple,
    PySem.W.mg_none_of X G z_str,
    PySem.W.mg_none_of X G z_isinstance,
    PySem.W.mg_none_of X G z_len,
    PySem.W.mg_none_of X G z_all,
    PySem.W.mg_none_of X G z_zip,
    PySem.W.mg_none_of X G z_sum,
    PySem.W.mg_none_of X G z_enumerate,
    PySem.W.mg_none_of X G z_range,
    PySem.W.mg_none_of X G z_abs,
    PySem.W.mg_none_of X G z_min,
    PySem.W.mg_none_of X G z_sorted,
    tF,
    PySem.W.mg_of X G gFULL,
    tM,
    PySem.W.mg_of X G gMOST,
    PySem.W.mg_of X G gComb,
    NP,
    PySem.W.mg_of X G gNP,
    xNP,
    kNP,
    bNP,
    tNP,
    exm_own bNP iNP tNP sNP⟩
  exact ⟨T.law.fd, fun s v => .of_eq rfl, fun base _ _ => ok_law T⟩
theorem walk {l : PySem.W.OpenLaw} {q : Program} {loose : List Str} {XP : (Str → Option Value) → Heap → Prop} {YP : World → Heap → Prop} {d : DefRec} {K : Params → PySem.W.Frag} (hn : l.most = some 63) (hdf : d.params.defaults = [])
    (hY : ∀ (w : World) (h : Heap), YP w h → (K w.params).In h)
    (F : ∀ (w : World) (mg : Str → Option Value) (fa : Addr) (h : Heap), (K w.params).In h → h.Ns mainGlobals mg → mg d.name = some (.ref fa) →
      ∃ fd : FuncData, (∀ (s : Shared) (u : Value), BindsTo s fd ⟨[u], []⟩ [("_law_script", u)]) ∧ ∀ base : Heap, (K w.params).In base → base.Ns mainGlobals mg → FnOk l.prog w (K w.params) mg base CX0 9 fa fd ["_law_script"] (spLaw (K w.params))) :
    PySem.W.WalkO q loose XP YP l.row.toRowW d [] (fun f vs => PySem.call f vs) :=
  L2.walk_of (n := 63) (k := 9) (x := "_law_script") (CX := fun _ => CX0) (sp := fun w => spLaw (K w.params)) hn (by decide) hdf ⟨rfl, by decide, by decide⟩ hY F (fun _ _ a ns hl _ hS => ⟨a, ns, rfl, hS, hl, fun _ => rfl⟩) fun _ _ _ _ _ z => z
end E8
set_option Elab.async false
set_option linter.all false
open PySem PySem.W PyProof.Rows in
set_option maxRecDepth 100000 in
set_option maxHeartbeats 0 in
theorem PySem.Challenge.cw_eighthturns_k33_whole_even_sums_turn_not_holds : PySem.Challenge.rw_eighthturns_k33_whole_even_sums_turn_not.Holds := by
  w_on; o_law; k_head; (case hw => w_witness2)
  k_fill
  refine E8.walk (l := PySem.Challenge.rw_eighthturns_k33_whole_even_sums_turn_not) rfl rfl (fun w h Y => PySem.W.kIn_of Y) ?F
  case F =>
    intro w mg fa h KX G hmg
    refine' E8.all_mk KX G hmg ?a0 ?l0 ?c0 ?k0 ?a1 ?l1 ?c1 ?k1 ?a2 ?l2 ?c2 ?k2 ?a3 ?l3 ?c3 ?k3 ?a4 ?l4 ?c4 ?k4 ?a5 ?l5 ?c5 ?k5 ?a6 ?l6 ?c6 ?k6 ?a7 ?l7 ?c7 ?k7 ?a8 ?l8 ?c8 ?k8 ?a9 ?l9 ?c9 ?k9 ?a10 ?l10 ?c10 ?k10 ?a11 ?l11 ?c11 ?k11 ?a12 ?l12 ?c12 ?k12 ?a13 ?l13 ?c13 ?k13 ?a14 ?l14 ?c14 ?k14 ?a15 ?l15 ?c15 ?k15 ?a16 ?l16 ?c16 ?k16 ?a17 ?l17 ?c17 ?k17 ?a18 ?l18 ?c18 ?k18 ?a19 ?l19 ?c19 ?k19 ?a20 ?l20 ?c20 ?k20 ?a21 ?l21 ?c21 ?k21 ?a22 ?l22 ?c22 ?k22 ?a23 ?l23 ?c23 ?k23 ?a24 ?l24 ?c24 ?k24 ?a25 ?l25 ?c25 ?k25 ?a26 ?l26 ?c26 ?k26 ?a27 ?l27 ?c27 ?k27 ?a28 ?l28 ?c28 ?k28 ?a29 ?l29 ?c29 ?k29 ?a30 ?l30 ?c30 ?k30 ?a31 ?l31 ?c31 ?k31 ?a32 ?l32 ?c32 ?k32 ?a33 ?l33 ?c33 ?k33 ?a34 ?l34 ?c34 ?k34 ?a35 ?l35 ?c35 ?k35 ?a36 ?l36 ?c36 ?k36 ?a37 ?l37 ?c37 ?k37 ?a38 ?l38 ?c38 ?k38 ?a39 ?l39 ?c39 ?k39 ?a40 ?l40 ?c40 ?k40 ?a41 ?l41 ?c41 ?k41 ?a42 ?l42 ?c42 ?k42 ?a43 ?l43 ?c43 ?k43 ?a44 ?l44 ?c44 ?k44 ?a45 ?l45 ?c45 ?k45 ?a46 ?l46 ?c46 ?k46 ?a47 ?l47 ?c47 ?k47 ?a48 ?l48 ?c48 ?k48 ?a49 ?l49 ?c49 ?k49 ?a50 ?l50 ?c50 ?k50 ?a51 ?l51 ?c51 ?k51 ?a52 ?l52 ?c52 ?k52 ?a53 ?l53 ?c53 ?k53 ?z_int ?z_bool ?z_list ?z_tuple ?z_str ?z_isinstance ?z_len ?z_all ?z_zip ?z_sum ?z_enumerate ?z_range ?z_abs ?z_min ?z_sorted ?gFULL ?gMOST ?gComb ?gNP ?xNP ?kNP ?bNP ?tNP ?iNP ?sNP
    (case a0 => k_is)
    (case l0 => k_is)
    (case c0 => k_is)
    (case k0 => k_is)
    (case a1 => k_is)
    (case l1 => k_is)
    (case c1 => k_is)
    (case k1 => k_is)
    (case a2 => k_is)
    (case l2 => k_is)
    (case c2 => k_is)
    (case k2 => k_is)
    (case a3 => k_is)
    (case l3 => k_is)
    (case c3 => k_is)
    (case k3 => k_is)
    (case a4 => k_is)
    (case l4 => k_is)
    (case c4 => k_is)
    (case k4 => k_is)
    (case a5 => k_is)
    (case l5 => k_is)
    (case c5 => k_is)
    (case k5 => k_is)
    (case a6 => k_is)
    (case l6 => k_is)
    (case c6 => k_is)
    (case k6 => k_is)
    (case a7 => k_is)
    (case l7 => k_is)
    (case c7 => k_is)
    (case k7 => k_is)
    (case a8 => k_is)
    (case l8 => k_is)
    (case c8 => k_is)
    (case k8 => k_is)
    (case a9 => k_is)
    (case l9 => k_is)
    (case c9 => k_is)
    (case k9 => k_is)
    (case a10 => k_is)
    (case l10 => k_is)
    (case c10 => k_is)
    (case k10 => k_is)
    (case a11 => k_is)
    (case l11 => k_is)
    (case c11 => k_is)
    (case k11 => k_is)
    (case a12 => k_is)
    (case l12 => k_is)
    (case c12 => k_is)
    (case k12 => k_is)
    (case a13 => k_is)
    (case l13 => k_is)
    (case c13 => k_is)
    (case k13 => k_is)
    (case a14 => k_is)
    (case l14 => k_is)
    (case c14 => k_is)
    (case k14 => k_is)
    (case a15 => k_is)
    (case l15 => k_is)
    (case c15 => k_is)
    (case k15 => k_is)
    (case a16 => k_is)
    (case l16 => k_is)
    (case c16 => k_is)
    (case k16 => k_is)
    (case a17 => k_is)
    (case l17 => k_is)
    (case c17 => k_is)
    (case k17 => k_is)
    (case a18 => k_is)
    (case l18 => k_is)
    (case c18 => k_is)
    (case k18 => k_is)
    (case a19 => k_is)
    (case l19 => k_is)
    (case c19 => k_is)
    (case k19 => k_is)
    (case a20 => k_is)
    (case l20 => k_is)
    (case c20 => k_is)
    (case k20 => k_is)
    (case a21 => k_is)
    (case l21 => k_is)
    (case c21 => k_is)
    (case k21 => k_is)
    (case a22 => k_is)
    (case l22 => k_is)
    (case c22 => k_is)
    (case k22 => k_is)
    (case a23 => k_is)
    (case l23 => k_is)
    (case c23 => k_is)
    (case k23 => k_is)
    (case a24 => k_is)
    (case l24 => k_is)
    (case c24 => k_is)
    (case k24 => k_is)
    (case a25 => k_is)
    (case l25 => k_is)
    (case c25 => k_is)
    (case k25 => k_is)
    (case a26 => k_is)
    (case l26 => k_is)
    (case c26 => k_is)
    (case k26 => k_is)
    (case a27 => k_is)
    (case l27 => k_is)
    (case c27 => k_is)
    (case k27 => k_is)
    (case a28 => k_is)
    (case l28 => k_is)
    (case c28 => k_is)
    (case k28 => k_is)
    (case a29 => k_is)
    (case l29 => k_is)
    (case c29 => k_is)
    (case k29 => k_is)
    (case a30 => k_is)
    (case l30 => k_is)
    (case c30 => k_is)
    (case k30 => k_is)
    (case a31 => k_is)
    (case l31 => k_is)
    (case c31 => k_is)
    (case k31 => k_is)
    (case a32 => k_is)
    (case l32 => k_is)
    (case c32 => k_is)
    (case k32 => k_is)
    (case a33 => k_is)
    (case l33 => k_is)
    (case c33 => k_is)
    (case k33 => k_is)
    (case a34 => k_is)
    (case l34 => k_is)
    (case c34 => k_is)
    (case k34 => k_is)
    (case a35 => k_is)
    (case l35 => k_is)
    (case c35 => k_is)
    (case k35 => k_is)
    (case a36 => k_is)
    (case l36 => k_is)
    (case c36 => k_is)
    (case k36 => k_is)
    (case a37 => k_is)
    (case l37 => k_is)
    (case c37 => k_is)
    (case k37 => k_is)
    (case a38 => k_is)
    (case l38 => k_is)
    (case c38 => k_is)
    (case k38 => k_is)
    (case a39 => k_is)
    (case l39 => k_is)
    (case c39 => k_is)
    (case k39 => k_is)
    (case a40 => k_is)
    (case l40 => k_is)
    (case c40 => k_is)
    (case k40 => k_is)
    (case a41 => k_is)
    (case l41 => k_is)
    (case c41 => k_is)
    (case k41 => k_is)
    (case a42 => k_is)
    (case l42 => k_is)
    (case c42 => k_is)
    (case k42 => k_is)
    (case a43 => k_is)
    (case l43 => k_is)
    (case c43 => k_is)
    (case k43 => k_is)
    (case a44 => k_is)
    (case l44 => k_is)
    (case c44 => k_is)
    (case k44 => k_is)
    (case a45 => k_is)
    (case l45 => k_is)
    (case c45 => k_is)
    (case k45 => k_is)
    (case a46 => k_is)
    (case l46 => k_is)
    (case c46 => k_is)
    (case k46 => k_is)
    (case a47 => k_is)
    (case l47 => k_is)
    (case c47 => k_is)
    (case k47 => k_is)
    (case a48 => k_is)
    (case l48 => k_is)
    (case c48 => k_is)
    (case k48 => k_is)
    (case a49 => k_is)
    (case l49 => k_is)
    (case c49 => k_is)
    (case k49 => k_is)
    (case a50 => k_is)
    (case l50 => k_is)
    (case c50 => k_is)
    (case k50 => k_is)
    (case a51 => k_is)
    (case l51 => k_is)
    (case c51 => k_is)
    (case k51 => k_is)
    (case a52 => k_is)
    (case l52 => k_is)
    (case c52 => k_is)
    (case k52 => k_is)
    (case a53 => k_is)
    (case l53 => k_is)
    (case c53 => k_is)
    (case k53 => k_is)
    (case z_int => k_is)
    (case z_bool => k_is)
    (case z_list => k_is)
    (case z_tuple => k_is)
    (case z_str => k_is)
    (case z_isinstance => k_is)
    (case z_len => k_is)
    (case z_all => k_is)
    (case z_zip => k_is)
    (case z_sum => k_is)
    (case z_enumerate => k_is)
    (case z_range => k_is)
    (case z_abs => k_is)
    (case z_min => k_is)
    (case z_sorted => k_is)
    (case gFULL => k_is)
    (case gMOST => k_is)
    (case gComb => k_is)
    (case gNP => k_is)
    (case xNP => k_exc)
    (case kNP => k_is)
    (case bNP => k_is)
    (case tNP => k_is)
    (case iNP => k_is)
    (case sNP => first | rfl | k_is)
